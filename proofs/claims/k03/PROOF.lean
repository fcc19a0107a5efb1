import PyProof.Rows.All
import Wide.All
import OpenK.AllK
import Wide.FinOn
import HandS.Base
import HandS.Call
import HandS.Ends
import HandS.Defaults
import HandS.Exc
import HandS.CallSlots
import KE.KStateDown
import HandS.ForMost
import HandS.Walk
import HandS.More
import HandS.Flow
import HandS.Style
import HandS.Wide
import HandS.WideMore
import HandS.IsInst
import HandS.TupAny
import HandS.DictComp
import HandS.Conv
import HandS.SortInts
import KE.SortData
import HandS.Lambda
import HandS.RaiseMore
import KE.GoesMore
import HandS.ExcOwn
import HandS.SetFor
import HandS.Set
import HandS.SetKeys
import KE.KDictPairs
import HandS.EndBits
import HandS.HeadEnd
import HandS.Head2
import HandS.HeadHook2
import PyProof.ReprRoads
import PyProof.ReprBulk
import HandS.Codes
import HandS.OwnEq
import PyProof.InstNe
import KE.KOwnIter
import HandS.IterVal
import HandS.HeadHook4
import HandS.ExcInit
import HandS.ExcField
import HandS.ExcIs
import KE.KExcSuper
import HandS.EndTab
import HandS.Deep
import HandS.Text
import HandS.Small
import HandS.Nested
import KE.KDictZip
import KE.KDictList
import PyProof.Conv_bool
import PyProof.Rows.Range3
import HandS.Strs
import HandS.Dict
import KE.KUnpack
import HandS.NamedTupGet
import HandS.ListItems
import HandS.DeepEq
import PySem.Challenge.RW_giftbars_k03_rows_refused
set_option Elab.async false
set_option linter.all false
set_option maxRecDepth 100000
set_option maxHeartbeats 4000000
namespace L2
open PySem PySem.Spec PyProof.Rows
structure RoomG (k : Nat) (A : Around) : Prop where
  r : Room k A
  g : A.guards = some []
theorem RoomG.mono {j k : Nat} {A : Around} (h : RoomG k A) (l : j ≤ k) : RoomG j A := ⟨h.r.mono l, h.g⟩
theorem RoomG.deeper {k : Nat} {A : Around} (h : RoomG (k + 1) A) (env : Env) : RoomG k (A.deeper env) := ⟨h.r.deeper env, h.g⟩
theorem RoomG.hd {k : Nat} {A : Around} (h : RoomG k A) : A.handled = none := h.r.hd
theorem RoomG.depth {k : Nat} {A : Around} (h : RoomG k A) : A.depth < recursionLimit := h.r.depth
theorem RoomG.units {k : Nat} {A : Around} (h : RoomG k A) : A.units + 64 < cLine := h.r.units
theorem make_guards {A : Around} {C : Addr} {us : List Value} {kw : List (Str × Value)} : (A.under (.builtin "type.__call__" ⟨.ref C :: us, kw⟩)).guards = A.guards := by
  first | rfl | simp [Around.under, Code.weight, Code.isCreation, Code.isGuard, Code.isCaller, Code.frames, Code.isFrame, guardIds]
theorem RoomG.make {k : Nat} {A : Around} (h : RoomG (k + 1) A) (C : Addr) (us : List Value) (kw : List (Str × Value)) : RoomG k (A.under (.builtin "type.__call__" ⟨.ref C :: us, kw⟩)) := ⟨h.r.make C us kw, by rw [make_guards]; exact h.g⟩
structure FnOg (P : Program) (w : World) (K : PySem.W.Frag) (mg : Str → Option Value) (base : Heap) (CX : CXT) (k : Nat) (f : Addr) (fd : FuncData) (ps : List Str) (sp : Sp) : Prop where
  len : ∀ vs H Q E, sp vs H Q E → vs.length = ps.length
  run : ∀ (A : Around) (outer : List Env) (s : Shared) (H : Hp) (args : Args) (us : List Value) (vs : List V) (Q : VK) (E : XK), RoomG k A → Env0 P w K mg base A outer s H → BindsTo s fd args (ps.zip us) → Vals vs us → sp vs H Q E →
    codeAny (model P w) A (.call (.ref f) args) (CR CX outer P w H s Q E) s
theorem FnOg.imp {P : Program} {w : World} {K : PySem.W.Frag} {mg : Str → Option Value} {base : Heap} {CX : CXT} {k : Nat} {f : Addr} {fd : FuncData} {ps : List Str} {sp sp2 : Sp} (F : FnOg P w K mg base CX k f fd ps sp)
    (h : ∀ vs H Q E, sp2 vs H Q E → sp vs H Q E) : FnOg P w K mg base CX k f fd ps sp2 :=
  ⟨fun vs H Q E z => F.len vs H Q E (h vs H Q E z), fun A outer s H args us vs Q E hr e0 hb r z => F.run A outer s H args us vs Q E hr e0 hb r (h vs H Q E z)⟩
section
variable {X : Cx} {CX : CXT} {k : Nat} {f C : Addr} {fd : FuncData} {ps : List Str} {sp : Sp} {dvs : List V} {ds : List Value} {E : XK} {x m : Str} {p pos apos : Pos} {e o : Expr} {es : List Expr} {ta : TE} {t : TA}
theorem run_fg {pinz : List (Addr × Obj)} {σ : St} {H : Hp} {s : Shared} {Q : VK} {uz : List Value} {vs : List V} (F : FnOg X.prog X.w X.K X.mg X.base CX k f fd ps sp) (hr : RoomG k X.A) (hb : Binds X.K fd ps ds) (hd : Vals dvs ds) (hx : Passes CX X E)
    (I : Inv X pinz σ H s) (r : Vals vs uz) (h : sp (vs ++ dvs) H Q E) : wpAny (model X.prog X.w) X.A (call (.ref f) uz) (EP X pinz σ Q) X.xe s := by
  have rr2 : Vals (vs ++ dvs) (uz ++ ds) := r.append hd
  have hln : (uz ++ ds).length = ps.length := by rw [← rr2.length]; exact F.len _ _ _ _ h
  refine wpAny_call (codeAny_mono (F.run X.A X.stack s H ⟨uz, []⟩ (uz ++ ds) (vs ++ dvs) Q E hr I.env0 (hb s uz I.kIn hln) rr2 h) fun r sz hqq => ?_)
  cases r with
  | error e => exact hx pinz σ H s e sz I hqq
  | ok flw =>
    cases flw with
    | ret u => exact I.after hqq
    | next => exact False.elim hqq
    | brk => exact False.elim hqq
    | cont => exact False.elim hqq
theorem pe_callg (F : FnOg X.prog X.w X.K X.mg X.base CX k f fd ps sp) (hr : RoomG k X.A) (hg : Gl X x) (hm : X.mg x = some (.ref f)) (hk : PySem.W.keepIn X.K (.ref f) = true) (hb : Binds X.K fd ps ds) (hd : Vals dvs ds) (hx : Passes CX X E)
    (ha : PA X (e :: es) t) (hdb : (x == ("__debug__" : Str)) = false := by decide) (he : starEach (e :: es) X.env = (false, eval e X.env) :: starEach es X.env := by rfl) (hpl : (backTo pos (starEach es X.env)).any (·.1) = false := by rfl) :
    PE X (.Call (.Name x p) (e :: es) [] pos) (tCall sp dvs E t) := by
  refine ⟨fun pinz s σ H Q I h => ?_⟩
  refine wpAny_Call_Name_kw (ld_glob I hg hm ?_ hdb)
  refine PySem.W.callWith_K (h₀ := X.base) I.ok.mod.kin hk (thn (ha.run pos pinz s σ H _ I h) fun uz sy ⟨vs, H1, J1, r, q⟩ => ⟨J1.kIn, ?_⟩) he hpl
  exact run_fg F hr hb hd hx J1 r q
end
theorem fn_og {CX : CXT} {P : Program} {w : World} {K : PySem.W.Frag} {mg : Str → Option Value} {base : Heap} {k : Nat} {f : Addr} {name qual : Str} {params : Arguments} {body : List Stmt} {scope : Scope} {dV kV doc pm cdv ct oc : Value} {an od : Option Addr}
    {osl : Array (Option Value)} {N ps : List Str} {sp : Sp} (lk : K.lookup f = some ⟨oc, od, .func (PySem.W.fnOf name qual params body scope dV kV doc pm an cdv ct), osl⟩) (hcd : PySem.W.codeIn K cdv qual = true) (S : FnScope N ps scope)
    (len : ∀ vs H Q E, sp vs H Q E → vs.length = ps.length)
    (hbody : ∀ (A : Around) (outer : List Env) (s : Shared) (H : Hp) (vs : List V) (Q : VK) (E : XK), RoomG k (A.deeper (envOfC qual scope s.heap.objs.size f cdv)) → sp vs H Q E →
      ∃ t, PSs (cxOf CX P w K mg base N qual scope f cdv A outer s H E) body t ∧ t { nx := fun _ H' => Q .non H', rt := Q } (start N vs) H) :
    FnOg P w K mg base CX (k + 1) f (PySem.W.fnOf name qual params body scope dV kV doc pm an cdv ct) ps sp := by
  refine ⟨len, fun A outer s H args uz vs Q E hr e0 hb r hsq => ?_⟩
  have hln := len _ _ _ _ hsq
  have KXX : K.In s.heap := e0.mod.kin.keeps fun b o e => (e0.bs b o e).1
  have limi : s.heap.NoLimit := e0.mod.nolimit.keeps fun b o e => (e0.bs b o e).1
  have hkind : ∀ y ∈ ps.zip uz, scope.names.lookup y.1 = some .local ∨ (scope.names.lookup y.1 = some .cell ∧ ((cellsFrom (s.heap.objs.size + 1) scope.names []).lookup y.1).isSome = true) := fun ⟨n, v⟩ hy => by
    rcases S.par n (List.of_mem_zip hy).1 with q | q
    · exact .inl q
    · exact .inr ⟨q, PySem.W.cellsFrom_some _ _ _ (.inl q)⟩
  refine codeAny_call_function hr.depth (KXX _ _ lk) rfl S.co S.gen rfl (PySem.W.codeRec_of KXX hcd) (hb _ _ _ _ ?_)
  refine wpAny_newFunctionEnv_cells S.kind hkind fun env he sy x => ?_
  subst he
  refine ⟨limi.keeps x.toInCall.keep, codeAny_func ?_⟩
  obtain ⟨t, ht, hqq⟩ := hbody A outer s H vs Q E (hr.deeper _) hsq
  have I : Inv (cxOf CX P w K mg base N qual scope f cdv A outer s H E) [] (start N vs) H sy := inv_start S hr.hd e0 hln r x
  refine wpAny_mono (ht.run [] sy (start N vs) H _ I hqq) (fun flw sz hs => ?_) fun e sz hs => hs
  have fin : ∀ {σ' : St} {H' : Hp} {v : V} {u : Value}, Inv (cxOf CX P w K mg base N qual scope f cdv A outer s H E) [] σ' H' sz → RelV v u → Q v H' → CE outer P w H s Q u sz :=
    fun {σ' H' v u} J rvl q => ⟨v, H', J.os, J.bare, J.base, J.hok, rvl, q⟩
  cases flw with
  | ret u =>
    obtain ⟨v, σ', H', J, rvl, q⟩ := hs
    exact fin J rvl q
  | next =>
    obtain ⟨σ', H', J, q⟩ := hs
    exact fin (v := V.non) (u := Value.none) J rfl q
  | brk =>
    obtain ⟨_, _, _, q⟩ := hs
    exact False.elim q
  | cont =>
    obtain ⟨_, _, _, q⟩ := hs
    exact False.elim q
section
variable {P : Program} {w : World} {K : PySem.W.Frag} {mg : Str → Option Value} {base : Heap} {x qual : Str} {params : Arguments} {body : List Stmt} {scope : Scope} {dvs : List V} {kws : List (Str × V)} {f : Addr} {fd : FuncData}
theorem FunD.okg {CX : CXT} {N ps : List Str} {k : Nat} {sp : Sp} (F : FunD K x qual params body scope dvs kws f fd) (S : FnScope N ps scope) (len : ∀ vs H Q E, sp vs H Q E → vs.length = ps.length)
    (hbody : ∀ (cdv : Value) (A : Around) (outer : List Env) (s : Shared) (H : Hp) (vs : List V) (Q : VK) (E : XK), RoomG k (A.deeper (envOfC qual scope s.heap.objs.size f cdv)) → sp vs H Q E →
      ∃ t, PSs (cxOf CX P w K mg base N qual scope f cdv A outer s H E) body t ∧ t { nx := fun _ H' => Q .non H', rt := Q } (start N vs) H) : FnOg P w K mg base CX (k + 1) f fd ps sp := by
  obtain ⟨oc, od, dV, kV, doc, pm, an, cdv, ct, osl, rfl, lk, hcd, _, _⟩ := F.ex
  exact fn_og lk hcd S len fun A outer s H vs Q E hr hsq => hbody cdv A outer s H vs Q E hr hsq
end
end L2
set_option Elab.async false
set_option linter.all false
set_option maxRecDepth 100000
set_option maxHeartbeats 4000000
namespace L2
open PySem PySem.Spec PyProof.Rows
theorem FnOg.cx {P : Program} {w : World} {K : PySem.W.Frag} {mg : Str → Option Value} {base : Heap} {k : Nat} {f : Addr} {fd : FuncData} {ps : List Str} {sp : Sp} (F : FnOg P w K mg base (fun _ _ _ _ _ _ => False) k f fd ps sp) : FnOg P w K mg base (CX P w) k f fd ps sp :=
  ⟨F.len, fun A outer s H args us vs Q E hr e0 hb r z => codeAny_mono (F.run A outer s H args us vs Q E hr e0 hb r z) fun r s' h => by
    cases r with
    | error e => exact h.elim
    | ok fl => cases fl <;> exact h⟩
/-- a def, its code object known -/
theorem FunD.okgC {P : Program} {w : World} {K : PySem.W.Frag} {mg : Str → Option Value} {base : Heap} {x qual : Str} {params : Arguments} {body : List Stmt} {scope : Scope} {dvs : List V} {kws : List (Str × V)} {f : Addr} {fd : FuncData} {CX : CXT} {N ps : List Str} {k : Nat} {sp : Sp} (F : FunD K x qual params body scope dvs kws f fd) (S : FnScope N ps scope) (len : ∀ vs H Q E, sp vs H Q E → vs.length = ps.length)
    (hbody : ∀ (cdv : Value) (A : Around) (outer : List Env) (s : Shared) (H : Hp) (vs : List V) (Q : VK) (E : XK), fd.code = cdv → RoomG k (A.deeper (envOfC qual scope s.heap.objs.size f cdv)) → sp vs H Q E →
      ∃ t, PSs (cxOf CX P w K mg base N qual scope f cdv A outer s H E) body t ∧ t { nx := fun _ H' => Q .non H', rt := Q } (start N vs) H) : FnOg P w K mg base CX (k + 1) f fd ps sp := by
  obtain ⟨oc, od, dV, kV, doc, pm, an, cdv, ct, osl, rfl, lk, hcd, _, _⟩ := F.ex
  exact fn_og lk hcd S len fun A outer s H vs Q E hr z => hbody cdv A outer s H vs Q E rfl hr z
def tMethx (C : Addr) (m : Str) (sp : Sp) (dvs : List V) (E : St → XK) (ta : TE) (t : TA) : TE := fun σ H Q => ta σ H fun x H1 => ∃ a dx fs, x = .ref a ∧ H1 a = some (.ins C dx fs) ∧ fs.lookup m = none ∧
  t σ H1 fun vs H2 => sp (x :: (vs ++ dvs)) H2 Q (E σ)
def tMakex (C : Addr) (sp : Sp) (dvs : List V) (E : St → XK) (t : TA) : TE := fun σ H Q => t σ H fun vs H1 => ∀ x dx, H1 x = none → H1 dx = none → dx ≠ x →
  sp (.ref x :: (vs ++ dvs)) (upd (upd H1 dx (.own x)) x (.ins C dx [])) (fun v H2 => v = .non ∧ Q (.ref x) H2) (E σ)
section
variable {X : Cx} {CX : CXT} {k : Nat} {f C : Addr} {fd : FuncData} {ps : List Str} {sp : Sp} {dvs : List V} {ds : List Value} {E : St → XK} {x m : Str} {p pos apos : Pos} {e o : Expr} {es : List Expr} {ta : TE} {t : TA}
theorem run_fx {pinz : List (Addr × Obj)} {σ : St} {H : Hp} {s : Shared} {Q : VK} {uz : List Value} {vs : List V} (F : FnOg X.prog X.w X.K X.mg X.base CX k f fd ps sp) (hr : RoomG k X.A) (hb : Binds X.K fd ps ds) (hd : Vals dvs ds) (hx : ∀ σ, PassesAt CX X σ (E σ))
    (I : Inv X pinz σ H s) (r : Vals vs uz) (h : sp (vs ++ dvs) H Q (E σ)) : wpAny (model X.prog X.w) X.A (call (.ref f) uz) (EP X pinz σ Q) X.xe s := by
  have rr2 : Vals (vs ++ dvs) (uz ++ ds) := r.append hd
  have hln : (uz ++ ds).length = ps.length := by rw [← rr2.length]; exact F.len _ _ _ _ h
  refine wpAny_call (codeAny_mono (F.run X.A X.stack s H ⟨uz, []⟩ (uz ++ ds) (vs ++ dvs) Q (E σ) hr I.env0 (hb s uz I.kIn hln) rr2 h) fun r sz hqq => ?_)
  cases r with
  | error e => exact hx σ pinz H s e sz I hqq
  | ok flw =>
    cases flw with
    | ret u => exact I.after hqq
    | next => exact False.elim hqq
    | brk => exact False.elim hqq
    | cont => exact False.elim hqq
theorem pe_callx (F : FnOg X.prog X.w X.K X.mg X.base CX k f fd ps sp) (hr : RoomG k X.A) (hg : Gl X x) (hm : X.mg x = some (.ref f)) (hk : PySem.W.keepIn X.K (.ref f) = true) (hb : Binds X.K fd ps ds) (hd : Vals dvs ds) (hx : ∀ σ, PassesAt CX X σ (E σ))
    (ha : PA X (e :: es) t) (hdb : (x == ("__debug__" : Str)) = false := by decide) (he : starEach (e :: es) X.env = (false, eval e X.env) :: starEach es X.env := by rfl) (hpl : (backTo pos (starEach es X.env)).any (·.1) = false := by rfl) :
    PE X (.Call (.Name x p) (e :: es) [] pos) (tCallSD sp dvs E t) := by
  refine ⟨fun pinz s σ H Q I h => ?_⟩
  refine wpAny_Call_Name_kw (ld_glob I hg hm ?_ hdb)
  refine PySem.W.callWith_K (h₀ := X.base) I.ok.mod.kin hk (thn (ha.run pos pinz s σ H _ I h) fun uz sy ⟨vs, H1, J1, r, q⟩ => ⟨J1.kIn, ?_⟩) he hpl
  exact run_fx F hr hb hd hx J1 r q
theorem pe_methx {pl : Sem Bool} (he : PE X o ta) (c : Cls X.K C) (hm : Meth X.K C m f) (F : FnOg X.prog X.w X.K X.mg X.base CX k f fd ps sp) (hr : RoomG k X.A) (hb : Binds X.K fd ps ds) (hd : Vals dvs ds) (hx : ∀ σ, PassesAt CX X σ (E σ)) (ha : PA X (e :: es) t)
    (hst : starEach (e :: es) X.env = (false, eval e X.env) :: starEach es X.env := by rfl) (hpl : (backTo pos (starEach es X.env)).any (·.1) = false := by rfl)
    (ht : eval (.Call (.Attribute o m apos) (e :: es) [] pos) X.env = (do
      let ov ← eval o X.env
      standAt apos.atName
      let (f, first) ← holding [ov] (getMethod ov m pl)
      callWith pos f first (backTo pos (starEach (e :: es) X.env)) (backToKw pos (keywordEach [] X.env))) := by rfl) :
    PE X (.Call (.Attribute o m apos) (e :: es) [] pos) (tMethx C m sp dvs E ta t) := by
  refine ⟨fun pinz s σ H Q I h => ?_⟩
  refine PySem.W.methodCall_KW (pl := pl) (thn (he.run pinz s σ H _ I h) fun u sy ⟨x, H1, J1, rx, a, dx, fs, ex, ea, l, q⟩ => ?_) ht
  subst ex
  obtain rfl : u = Value.ref a := rx
  refine getmeth_ok J1 ea c hm l ?_
  refine PySem.W.callWith_K (first := [.ref a]) (h₀ := X.base) I.ok.mod.kin hm.kp (thn (ha.run pos pinz sy σ H1 _ J1 q) fun uz s2 ⟨vs, H2, J2, r, qq2⟩ => ⟨J2.kIn, ?_⟩) hst hpl
  exact run_fx (uz := .ref a :: uz) (vs := .ref a :: vs) F hr hb hd hx J2 (.cons rfl r) qq2
/-- o.m() -/
theorem pe_methx0 {pl : Sem Bool} (he : PE X o ta) (c : Cls X.K C) (hm : Meth X.K C m f) (F : FnOg X.prog X.w X.K X.mg X.base CX k f fd ps sp) (hr : RoomG k X.A) (hb : Binds X.K fd ps ds) (hd : Vals dvs ds) (hx : ∀ σ, PassesAt CX X σ (E σ))
    (ht : eval (.Call (.Attribute o m apos) [] [] pos) X.env = (do
      let ov ← eval o X.env
      standAt apos.atName
      let (f, first) ← holding [ov] (getMethod ov m pl)
      callWith pos f first (backTo pos (starEach [] X.env)) (backToKw pos (keywordEach [] X.env))) := by rfl) :
    PE X (.Call (.Attribute o m apos) [] [] pos) (tMethx C m sp dvs E ta tNil) := by
  refine ⟨fun pinz s σ H Q I h => ?_⟩
  refine PySem.W.methodCall_KW (pl := pl) (thn (he.run pinz s σ H _ I h) fun u sy ⟨x, H1, J1, rx, a, dx, fs, ex, ea, l, q⟩ => ?_) ht
  subst ex
  obtain rfl : u = Value.ref a := rx
  refine getmeth_ok J1 ea c hm l ?_
  exact PySem.W.callWith_K0 (first := [.ref a]) J1.kIn hm.kp (run_fx (uz := [.ref a]) (vs := [.ref a]) F hr hb hd hx J1 (.cons rfl .nil) q)
theorem run_makex {pinz : List (Addr × Obj)} {σ : St} {H : Hp} {s : Shared} {Q : VK} {uz : List Value} {vs : List V} (M : Mk X.K C f) (F : FnOg X.prog X.w X.K X.mg X.base CX k f fd ps sp) (hr : RoomG (k + 1) X.A) (hb : Binds X.K fd ps ds) (hd : Vals dvs ds)
    (hx : ∀ σ, PassesAt CX X σ (E σ)) (I : Inv X pinz σ H s) (r : Vals vs uz)
    (h : ∀ x dx, H x = none → H dx = none → dx ≠ x → sp (.ref x :: (vs ++ dvs)) (upd (upd H dx (.own x)) x (.ins C dx [])) (fun v H2 => v = .non ∧ Q (.ref x) H2) (E σ)) :
    wpAny (model X.prog X.w) X.A (call (.ref C) uz) (EP X pinz σ Q) X.xe s := by
  have hqq := h (s.heap.objs.size + 1) s.heap.objs.size (I.hok.fresh (Nat.le_succ _)) (I.hok.fresh (Nat.le_refl _)) (Nat.ne_of_lt (Nat.lt_succ_self _))
  have J2 := Inv.made (C := C) I
  have rr2 : Vals (V.ref (s.heap.objs.size + 1) :: (vs ++ dvs)) (Value.ref (s.heap.objs.size + 1) :: (uz ++ ds)) := .cons rfl (r.append hd)
  have hln : (Value.ref (s.heap.objs.size + 1) :: uz ++ ds).length = ps.length := by
    have e := rr2.length
    rw [F.len _ _ _ _ hqq] at e
    exact e.symm
  refine wpAny_call (make_map (f := f) I.kIn M.makes M.init (beq_iff_eq.mp M.fn) (codeAny_mono (F.run _ X.stack _ _ ⟨Value.ref (s.heap.objs.size + 1) :: uz, []⟩ (Value.ref (s.heap.objs.size + 1) :: (uz ++ ds)) _ _ (E σ) (hr.make C uz [])
    (J2.env0.make C uz []) (hb _ (Value.ref (s.heap.objs.size + 1) :: uz) J2.kIn hln) rr2 hqq) fun r sz hqz => ?_))
  cases r with
  | error e => exact hx σ pinz _ _ e sz J2 hqz
  | ok flw =>
    cases flw with
    | ret u =>
      obtain ⟨v, H', I3, rvl, ev, q3⟩ := J2.after hqz
      subst ev
      exact ⟨rvl, ⟨V.ref (s.heap.objs.size + 1), H', I3, rfl, q3⟩⟩
    | next => exact False.elim hqz
    | brk => exact False.elim hqz
    | cont => exact False.elim hqz
theorem pe_makex (M : Mk X.K C f) (F : FnOg X.prog X.w X.K X.mg X.base CX k f fd ps sp) (hr : RoomG (k + 1) X.A) (hg : Gl X x) (hm : X.mg x = some (.ref C)) (hb : Binds X.K fd ps ds) (hd : Vals dvs ds) (hx : ∀ σ, PassesAt CX X σ (E σ))
    (ha : PA X (e :: es) t) (hdb : (x == ("__debug__" : Str)) = false := by decide) (he : starEach (e :: es) X.env = (false, eval e X.env) :: starEach es X.env := by rfl) (hpl : (backTo pos (starEach es X.env)).any (·.1) = false := by rfl) :
    PE X (.Call (.Name x p) (e :: es) [] pos) (tMakex C sp dvs E t) := by
  refine ⟨fun pinz s σ H Q I h => ?_⟩
  refine wpAny_Call_Name_kw (ld_glob I hg hm ?_ hdb)
  refine PySem.W.callWith_K (h₀ := X.base) I.ok.mod.kin M.kp (thn (ha.run pos pinz s σ H _ I h) fun uz sy ⟨vs, H1, J1, r, q⟩ => ⟨J1.kIn, ?_⟩) he hpl
  exact run_makex M F hr hb hd hx J1 r q
end
end L2
set_option Elab.async false
set_option linter.all false
set_option maxRecDepth 100000
set_option maxHeartbeats 2000000
namespace PP
open PySem PySem.Spec PyProof.Rows L2
inductive D where
  | non | bl (b : Bool) | int (i : Int) | str (x : Str)
  | lst (xs : List D) | tup (xs : List D)
  | dct (kvs : List (Key × D)) | dctT (kvs : List (List Key × D))
  | obj (c : Str) (fs : List (Str × D))
  | kt (xs : List D)
abbrev AS := Addr → Prop
/-- what is fixed through a law: the written part, the own classes' addresses -/
structure Gc where
  K : PySem.W.Frag
  ga : Str → Addr
  tb : List (Addr × Str) := []
  sm : ∃ o, K.lookup sysModules = some o ∧ o.cls = .type "dict"
/-- a tuple that is written in the module -/
def KTup (K : PySem.W.Frag) (a : Addr) (xs : List V) : Prop := ∃ (o : Obj) (its : Array Value) (n : Nat), K.lookup a = some o ∧ o.cls = .type "tuple" ∧ o.data = .seq its n ∧ its.size ≤ sizeLine ∧ Vals xs its.toList
mutual
inductive Fz (G : Gc) (A : AS) (H : Hp) : V → D → Prop
  | non : Fz G A H .non .non
  | bl (b : Bool) : Fz G A H (.bl b) (.bl b)
  | int (i : Int) : Fz G A H (.int i) (.int i)
  | str (x : Str) : Fz G A H (.str x) (.str x)
  | lst {a : Addr} {vs : List V} {xs : List D} : ¬ A a → H a = some (.lst vs) → FzL G A H vs xs → Fz G A H (.ref a) (.lst xs)
  | tup {a : Addr} {vs : List V} {xs : List D} : ¬ A a → H a = some (.tup vs) → FzL G A H vs xs → Fz G A H (.ref a) (.tup xs)
  | dct {a : Addr} {kvs : List (Key × V)} {ds : List (Key × D)} : ¬ A a → Rd H a (.dK kvs) → kvs.map (·.1) = ds.map (·.1) → FzL G A H (kvs.map (·.2)) (ds.map (·.2)) → Fz G A H (.ref a) (.dct ds)
  | dctT {a : Addr} {kvs : List (List Key × V)} {ds : List (List Key × D)} : ¬ A a → Rd H a (.dT kvs) → kvs.map (·.1) = ds.map (·.1) → FzL G A H (kvs.map (·.2)) (ds.map (·.2)) → Fz G A H (.ref a) (.dctT ds)
  | obj {a dx : Addr} {c : Str} {fs : List (Str × V)} {ds : List (Str × D)} : ¬ A a → H a = some (.ins (G.ga c) dx fs) → fs.map (·.1) = ds.map (·.1) → FzL G A H (fs.map (·.2)) (ds.map (·.2)) → Fz G A H (.ref a) (.obj c ds)
  | kt {a : Addr} {vs : List V} {xs : List D} : KTup G.K a vs → FzL G A H vs xs → Fz G A H (.ref a) (.kt xs)
inductive FzL (G : Gc) (A : AS) (H : Hp) : List V → List D → Prop
  | nil : FzL G A H [] []
  | cons {v : V} {vs : List V} {d : D} {ds : List D} : Fz G A H v d → FzL G A H vs ds → FzL G A H (v :: vs) (d :: ds)
end
/-- an object that is as it was, or a dict that a loop has locked -/
def Le (o o' : HO) : Prop := o' = o ∨ (∃ ob kvs, o = .dK kvs ∧ o' = .frz ob (.dK kvs)) ∨ (∃ ob kvs, o = .dT kvs ∧ o' = .frz ob (.dT kvs))
/-- what is not in A stays; what is in Z to the sign -/
def Keep (A Z : AS) (H H' : Hp) : Prop := ∀ a o, H a = some o → ¬ A a → ∃ o', H' a = some o' ∧ Le o o' ∧ (Z a → o' = o)
theorem Le.refl (o : HO) : Le o o := .inl rfl
theorem Le.trans {a b c : HO} (h : Le a b) (k : Le b c) : Le a c := by
  rcases h with rfl | ⟨ob, kvs, rfl, rfl⟩ | ⟨ob, kvs, rfl, rfl⟩
  · exact k
  · rcases k with rfl | ⟨_, _, q, _⟩ | ⟨_, _, q, _⟩
    · exact .inr (.inl ⟨ob, kvs, rfl, rfl⟩)
    · cases q
    · cases q
  · rcases k with rfl | ⟨_, _, q, _⟩ | ⟨_, _, q, _⟩
    · exact .inr (.inr ⟨ob, kvs, rfl, rfl⟩)
    · cases q
    · cases q
theorem Keep.refl (A Z : AS) (H : Hp) : Keep A Z H H := fun _ o h _ => ⟨o, h, .refl o, fun _ => rfl⟩
theorem Keep.trans {A Z : AS} {H H1 H2 : Hp} (h : Keep A Z H H1) (k : Keep A Z H1 H2) : Keep A Z H H2 := fun a o e n => by
  obtain ⟨o1, e1, l1, z1⟩ := h a o e n
  obtain ⟨o2, e2, l2, z2⟩ := k a o1 e1 n
  exact ⟨o2, e2, l1.trans l2, fun z => (z2 z).trans (z1 z)⟩
theorem Keep.mono {A B Z Y : AS} {H H' : Hp} (h : Keep A Z H H') (s : ∀ a, A a → B a) (y : ∀ a, Y a → Z a) : Keep B Y H H' := fun a o e n =>
  let ⟨o', e', l, z⟩ := h a o e fun z => n (s a z)
  ⟨o', e', l, fun q => z (y a q)⟩
theorem Keep.new {A Z : AS} {H : Hp} {p : Addr} {o : HO} (h : H p = none) : Keep A Z H (upd H p o) := fun a u e _ => ⟨u, by rw [upd_ne (ne_of_none e h)]; exact e, .refl u, fun _ => rfl⟩
theorem Keep.at {A Z : AS} {H H' : Hp} {a : Addr} {o : HO} (k : Keep A Z H H') (e : H a = some o) (n : ¬ A a) (h : ∀ o', Le o o' → o' = o) : H' a = some o := by
  obtain ⟨o', e', l, _⟩ := k a o e n
  rw [e', h o' l]
theorem Keep.atZ {A Z : AS} {H H' : Hp} {a : Addr} {o : HO} (k : Keep A Z H H') (e : H a = some o) (n : ¬ A a) (z : Z a) : H' a = some o := by
  obtain ⟨o', e', l, q⟩ := k a o e n
  rw [e', q z]
theorem Keep.upd {A Z : AS} {H H' : Hp} {p : Addr} {o : HO} (k : Keep A Z H H') (h : A p ∨ H p = none) : Keep A Z H (upd H' p o) := fun a u e n => by
  obtain ⟨o', e', l, z⟩ := k a u e n
  have ne : a ≠ p := by
    rintro rfl
    rcases h with h | h
    · exact n h
    · rw [h] at e; cases e
  exact ⟨o', by rw [upd_ne ne]; exact e', l, z⟩
theorem Keep.none {A Z : AS} {H H' : Hp} {p : Addr} (k : Keep A Z H H') (h : H' p = none) (n : ¬ A p) : H p = none := by
  cases e : H p with
  | none => rfl
  | some o =>
    obtain ⟨o', e', _⟩ := k p o e n
    rw [h] at e'; cases e'
theorem le_lst {xs : List V} : ∀ o', Le (.lst xs) o' → o' = .lst xs := fun o' h => by
  rcases h with h | ⟨_, _, q, _⟩ | ⟨_, _, q, _⟩
  · exact h
  · cases q
  · cases q
theorem le_tup {xs : List V} : ∀ o', Le (.tup xs) o' → o' = .tup xs := fun o' h => by
  rcases h with h | ⟨_, _, q, _⟩ | ⟨_, _, q, _⟩
  · exact h
  · cases q
  · cases q
theorem le_ins {C dx : Addr} {fs : List (Str × V)} : ∀ o', Le (.ins C dx fs) o' → o' = .ins C dx fs := fun o' h => by
  rcases h with h | ⟨_, _, q, _⟩ | ⟨_, _, q, _⟩
  · exact h
  · cases q
  · cases q
theorem Keep.rdK {A Z : AS} {H H' : Hp} {a : Addr} {kvs : List (Key × V)} (k : Keep A Z H H') (e : Rd H a (.dK kvs)) (n : ¬ A a) : Rd H' a (.dK kvs) := by
  rcases e with e | ⟨ob, e⟩
  · obtain ⟨o', e', l, _⟩ := k a _ e n
    rcases l with rfl | ⟨ob, kv, q, rfl⟩ | ⟨_, _, q, _⟩
    · exact .inl e'
    · cases q; exact .inr ⟨ob, e'⟩
    · cases q
  · obtain ⟨o', e', l, _⟩ := k a _ e n
    rcases l with rfl | ⟨_, _, q, _⟩ | ⟨_, _, q, _⟩
    · exact .inr ⟨ob, e'⟩
    · cases q
    · cases q
theorem Keep.rdT {A Z : AS} {H H' : Hp} {a : Addr} {kvs : List (List Key × V)} (k : Keep A Z H H') (e : Rd H a (.dT kvs)) (n : ¬ A a) : Rd H' a (.dT kvs) := by
  rcases e with e | ⟨ob, e⟩
  · obtain ⟨o', e', l, _⟩ := k a _ e n
    rcases l with rfl | ⟨_, _, q, _⟩ | ⟨ob, kv, q, rfl⟩
    · exact .inl e'
    · cases q
    · cases q; exact .inr ⟨ob, e'⟩
  · obtain ⟨o', e', l, _⟩ := k a _ e n
    rcases l with rfl | ⟨_, _, q, _⟩ | ⟨_, _, q, _⟩
    · exact .inr ⟨ob, e'⟩
    · cases q
    · cases q
section
variable {G : Gc} {A B Z : AS} {H H' : Hp}
mutual
/-- data stay while what they stand on stays; B: another set that they keep away from -/
theorem Fz.tr (k : Keep A Z H H') (s : ∀ a, B a → A a ∨ H a = none) : ∀ {v : V} {d : D}, Fz G A H v d → Fz G B H' v d
  | _, _, .non => .non
  | _, _, .bl b => .bl b
  | _, _, .int i => .int i
  | _, _, .str x => .str x
  | _, _, .lst n e l => .lst (fun z => (s _ z).elim n fun q => by rw [q] at e; cases e) (k.at e n le_lst) (FzL.tr k s l)
  | _, _, .tup n e l => .tup (fun z => (s _ z).elim n fun q => by rw [q] at e; cases e) (k.at e n le_tup) (FzL.tr k s l)
  | _, _, .dct n e q l => .dct (fun z => (s _ z).elim n fun q => by rcases e with e | ⟨_, e⟩ <;> (rw [q] at e; cases e)) (k.rdK e n) q (FzL.tr k s l)
  | _, _, .dctT n e q l => .dctT (fun z => (s _ z).elim n fun q => by rcases e with e | ⟨_, e⟩ <;> (rw [q] at e; cases e)) (k.rdT e n) q (FzL.tr k s l)
  | _, _, .obj n e q l => .obj (fun z => (s _ z).elim n fun q => by rw [q] at e; cases e) (k.at e n le_ins) q (FzL.tr k s l)
  | _, _, .kt e l => .kt e (FzL.tr k s l)
theorem FzL.tr (k : Keep A Z H H') (s : ∀ a, B a → A a ∨ H a = none) : ∀ {vs : List V} {ds : List D}, FzL G A H vs ds → FzL G B H' vs ds
  | _, _, .nil => .nil
  | _, _, .cons h t => .cons (Fz.tr k s h) (FzL.tr k s t)
end
theorem Fz.keep {v : V} {d : D} (k : Keep A Z H H') (h : Fz G A H v d) : Fz G A H' v d := h.tr k fun _ z => .inl z
theorem FzL.keep {v : List V} {d : List D} (k : Keep A Z H H') (h : FzL G A H v d) : FzL G A H' v d := h.tr k fun _ z => .inl z
theorem Fz.mono {v : V} {d : D} (s : ∀ a, B a → A a ∨ H a = none) (h : Fz G A H v d) : Fz G B H v d := h.tr (Keep.refl A A H) s
theorem FzL.mono {v : List V} {d : List D} (s : ∀ a, B a → A a ∨ H a = none) (h : FzL G A H v d) : FzL G B H v d := h.tr (Keep.refl A A H) s
theorem FzL.length : ∀ {vs : List V} {ds : List D}, FzL G A H vs ds → vs.length = ds.length
  | _, _, .nil => rfl
  | _, _, .cons _ t => by simp [FzL.length t]
theorem FzL.append : ∀ {vs ws : List V} {ds es : List D}, FzL G A H vs ds → FzL G A H ws es → FzL G A H (vs ++ ws) (ds ++ es)
  | _, _, _, _, .nil, k => k
  | _, _, _, _, .cons h t, k => .cons h (FzL.append t k)
theorem FzL.one {v : V} {d : D} (h : Fz G A H v d) : FzL G A H [v] [d] := .cons h .nil
theorem FzL.get : ∀ {vs : List V} {ds : List D} {i : Nat} {v : V}, FzL G A H vs ds → vs[i]? = some v → ∃ d, ds[i]? = some d ∧ Fz G A H v d
  | _, _, _, _, .nil, e => by simp at e
  | _, _, 0, _, .cons h _, e => by simp at e; subst e; exact ⟨_, rfl, h⟩
  | _, _, i + 1, v, .cons _ t, e => by
    obtain ⟨d, h1, h2⟩ := FzL.get (i := i) (v := v) t (by simpa using e)
    exact ⟨d, by simpa using h1, h2⟩
theorem FzL.getD : ∀ {vs : List V} {ds : List D} {i : Nat} {d : D}, FzL G A H vs ds → ds[i]? = some d → ∃ v, vs[i]? = some v ∧ Fz G A H v d
  | _, _, _, _, .nil, e => by simp at e
  | _, _, 0, _, .cons h _, e => by simp at e; subst e; exact ⟨_, rfl, h⟩
  | _, _, i + 1, v, .cons _ t, e => by
    obtain ⟨d, h1, h2⟩ := FzL.getD (i := i) (d := v) t (by simpa using e)
    exact ⟨d, by simpa using h1, h2⟩
theorem FzL.drop : ∀ {vs : List V} {ds : List D} (n : Nat), FzL G A H vs ds → FzL G A H (vs.drop n) (ds.drop n)
  | _, _, 0, h => h
  | _, _, _ + 1, .nil => .nil
  | _, _, n + 1, .cons _ t => FzL.drop n t
theorem FzL.take : ∀ {vs : List V} {ds : List D} (n : Nat), FzL G A H vs ds → FzL G A H (vs.take n) (ds.take n)
  | _, _, 0, _ => .nil
  | _, _, _ + 1, .nil => .nil
  | _, _, n + 1, .cons h t => .cons h (FzL.take n t)
theorem FzL.set : ∀ {vs : List V} {ds : List D} {v : V} {d : D} (n : Nat), FzL G A H vs ds → Fz G A H v d → FzL G A H (vs.set n v) (ds.set n d)
  | _, _, _, _, _, .nil, _ => .nil
  | _, _, _, _, 0, .cons _ t, k => .cons k t
  | _, _, _, _, n + 1, .cons h t, k => .cons h (FzL.set n t k)
theorem FzL.eraseIdx : ∀ {vs : List V} {ds : List D} (n : Nat), FzL G A H vs ds → FzL G A H (vs.eraseIdx n) (ds.eraseIdx n)
  | _, _, _, .nil => .nil
  | _, _, 0, .cons _ t => t
  | _, _, n + 1, .cons h t => .cons h (FzL.eraseIdx n t)
theorem FzL.reverse : ∀ {vs : List V} {ds : List D}, FzL G A H vs ds → FzL G A H vs.reverse ds.reverse
  | _, _, .nil => .nil
  | _, _, .cons h t => by
    rw [List.reverse_cons, List.reverse_cons]
    exact (FzL.reverse t).append (.one h)
theorem FzL.split : ∀ {ws : List V} {ds es : List D}, FzL G A H ws (ds ++ es) → ∃ v1 v2, ws = v1 ++ v2 ∧ FzL G A H v1 ds ∧ FzL G A H v2 es
  | ws, [], es, h => ⟨[], ws, rfl, .nil, h⟩
  | _, d :: ds, es, .cons h t => by
    obtain ⟨v1, v2, e, a, b⟩ := FzL.split (ds := ds) (es := es) t
    exact ⟨_ :: v1, v2, by rw [e]; rfl, .cons h a, b⟩
end
end PP
set_option Elab.async false
set_option linter.all false
set_option maxRecDepth 100000
set_option maxHeartbeats 2000000
namespace PP
open PySem PySem.Spec PyProof.Rows L2
/-- a value that an expression has made: data that stay, a new list, a new dict -/
inductive R where
  | fz (d : D) | nl (xs : List D) | nd (kvs : List (Key × D))
def R.d : R → D
  | .fz d => d
  | .nl xs => .lst xs
  | .nd kvs => .dct kvs
/-- what a slot holds: data that stay; a list of one's own; the caller's list that is changed; a dict of one's own; the stream -/
inductive P where
  | fz (d : D) | own (xs : List D) | io (xs : List D) | ownd (kvs : List (Key × D)) | stm
  | fn (fa : Addr) (ws : List V) (ds : List D) | ini (c : Str) (fs : List (Str × D)) | df (x : Str)
/-- the stream: what is left of the script, the number at hand, the count of draws, the mixed number -/
structure Stm where
  ns : List Int
  x : Int
  c : Nat
  y : Int
structure S where
  sl : List (Option P)
  c : Stm
def gt : List (Option P) → Nat → Option P
  | [], _ => none
  | x :: _, 0 => x
  | _ :: xs, n + 1 => gt xs n
def pt : List (Option P) → Nat → Option P → List (Option P)
  | [], _, _ => []
  | _ :: xs, 0, v => v :: xs
  | x :: xs, n + 1, v => x :: pt xs n v
/-- an error: its class, its fields -/
abbrev Xn := Str × List (Str × D)
abbrev XCc := Xn → Stm → Prop
abbrev XC := Xn → S → Prop
abbrev M (α : Type) := S → (α → S → Prop) → XC → Prop
def ret {α : Type} (a : α) : M α := fun s k _ => k a s
def bnd {α β : Type} (f : M α) (g : α → M β) : M β := fun s k e => f s (fun a s1 => g a s1 k e) e
def fail {α : Type} : M α := fun _ _ _ => False
def need {α : Type} (p : Prop) (f : M α) : M α := fun s k e => p ∧ f s k e
def toD (f : M R) : M D := fun s k e => f s (fun r => k r.d) e
def ofD (f : M D) : M R := fun s k e => f s (fun d => k (.fz d)) e
def rd (d : D) : M R := ret (.fz d)
/-- a contract: arguments (none: the stream), the count of draws, what is wanted of the value, of an error -/
abbrev Con := List (Option D) → Stm → (R → Stm → Prop) → XCc → Prop
/-- one that changes the list at one of its places -/
abbrev ConIO := List (Option D) → List D → Stm → (R → List D → Stm → Prop) → XCc → Prop
inductive FE where
  | pl (con : Con) (scal : Bool) (dfl : List D)
  | io (ix : Nat) (con : ConIO)
  | fp (con : Con → List D → Con)
/-- a def that calls what it got and tells what came of it: of a value, of an error -/
structure Ask where
  val : D → Option D
  err : Xn → Option D
structure Env where
  fn : Str → Option FE
  mth : Str → Str → Option FE
  cst : Str → Option D
  ask : Str → Option Ask := fun _ => none
  par : Option (Addr × List V × Con) := none
inductive Bop where | add | sub | mul | fdiv | mod | pow | rep
inductive Cop where | lt | le | gt | ge | eq | ne | isin | notin | isn | notn | isinD | notinD | eqd | ned
inductive Bi where | len | list | tuple | sorted | all | any | sum | max | min | max2 | min2 | int | str | repr | range | enum | zip | dict | setsort | lenset | abs
inductive Ty where | b (n : String) | own (c : Str)
inductive Tg where | one (i : Nat) | tup (ts : List Tg)
inductive Ex where
  | var (i : Nat) | int (i : Int) | str (x : Str) | bl (b : Bool) | non | cst (x : Str)
  | bin (op : Bop) (a b : Ex) | neg (a : Ex)
  | cmp (op : Cop) (a b : Ex) | cmp2 (op op' : Cop) (a b c : Ex)
  | and (a b : Ex) | or (a b : Ex) | not (a : Ex) | ite (t a b : Ex)
  | lst (es : List Ex) | tup (es : List Ex) | dct (ks vs : List Ex)
  | call (f : Str) (es : List Ex) (nd : Nat)
  | bi (f : Bi) (es : List Ex) | isi (e : Ex) (ts : List Ty)
  | mth (c : Str) (o : Ex) (m : Str) (es : List Ex) (nd : Nat) | att (c : Str) (o : Ex) (f : Str)
  | idx (o i : Ex) | sli (o : Ex) (lo hi : Option Ex) | rev (o : Ex)
  | join (o e : Ex) | split (o e : Ex) | index (o e : Ex) | get (o k d : Ex) | items (o : Ex)
  | lc (src : Ex) (tg : Tg) (ifs : List Ex) (elt : Ex)
  | dc (src : Ex) (tg : Tg) (ifs : List Ex) (k v : Ex)
  | pop (i : Nat) (e : Option Ex)
  | lcv (i : Nat) (tg : Tg) (ifs : List Ex) (elt : Ex)
  | oeq (c : Str) (neg : Bool) (a b : Ex) | isO (e : Ex) (c : Str) | itO (c f : Str) (e : Ex)
  | io (f : Str) (es : List Ex)
  | lam (f : Str) (caps : List Nat) (e : Ex)
  | callP (i : Nat) (es : List Ex) | callL (f : Str) (es : List Ex) (caps : List Nat) (m n : Nat) (e : Ex) | attI (i : Nat) (c f : Str) | callD (i : Nat) (xs : List Str) (es : List Ex) (nd : Nat)
  | boolO (c : Str) (a : Ex) | callO (f : Str) (i : Nat) (es : List Ex) (nd : Nat)
  | opx (f : List D → M R) (es : List Ex) | keyed (f : List D → List D → M R) (src : Ex) (caps : List Nat) (n : Nat) (e : Ex)
/-- what is looked at: data, or a slot's own list as it then is -/
inductive VR where | d (d : D) | sl (i : Nat)
def res : VR → M D
  | .d d => ret d
  | .sl i => fun s k _ => match gt s.sl i with
    | some (.fz d) => k d s
    | some (.own xs) => k (.lst xs) s
    | some (.io xs) => k (.lst xs) s
    | some (.ownd kvs) => k (.dct kvs) s
    | _ => False
def qVar (i : Nat) : M R := fun s k _ => match gt s.sl i with
  | some (.fz d) => k (.fz d) s
  | some (.own xs) => k (.fz (.lst xs)) { s with sl := pt s.sl i (some (.fz (.lst xs))) }
  | some (.ownd kvs) => k (.fz (.dct kvs)) { s with sl := pt s.sl i (some (.fz (.dct kvs))) }
  | _ => False
/-- a slot is given a value: a list or a dict that is new is its own -/
def R.p : R → P
  | .fz d => .fz d
  | .nl xs => .own xs
  | .nd kvs => .ownd kvs
def setS (i : Nat) (r : R) (s : S) : S := { s with sl := pt s.sl i (some r.p) }
def isIo : Option P → Bool
  | some (.io _) => true
  | some (.ini _ _) => true
  | _ => false
def store (i : Nat) (r : R) : M Unit := fun s k _ => isIo (gt s.sl i) = false ∧ k () (setS i r s)
mutual
def bindT : Tg → D → M Unit
  | .one i, x => store i (.fz x)
  | .tup ts, .tup xs => bindTs ts xs
  | .tup _, _ => fail
def bindTs : List Tg → List D → M Unit
  | [], [] => ret ()
  | t :: ts, x :: xs => bnd (bindT t x) fun _ => bindTs ts xs
  | _, _ => fail
end
mutual
def Tg.ix : Tg → List Nat
  | .one i => [i]
  | .tup ts => tgIxs ts
def tgIxs : List Tg → List Nat
  | [] => []
  | t :: ts => t.ix ++ tgIxs ts
end
def wipeS : List Nat → List (Option P) → List (Option P)
  | [], l => l
  | v :: vs, l => pt (wipeS vs l) v none
def isScalar : D → Bool
  | .non => true | .bl _ => true | .int _ => true | .str _ => true
  | _ => false
def truth : D → Bool
  | .non => false | .bl b => b | .int i => i != 0 | .str x => x.length != 0
  | .lst xs => !xs.isEmpty | .tup xs => !xs.isEmpty | .dct kvs => !kvs.isEmpty | .dctT kvs => !kvs.isEmpty
  | .obj _ _ => true
  | .kt xs => !xs.isEmpty
def qAdd : D → D → M R
  | .int i, .int j => rd (.int (i + j))
  | .str a, .str b => need (a.length + b.length ≤ sizeLine) (rd (.str (a ++ b)))
  | .lst a, .lst b => need (a.length + b.length ≤ sizeLine) (ret (.nl (a ++ b)))
  | .tup a, .tup b => need (a.length + b.length ≤ sizeLine) (rd (.tup (a ++ b)))
  | _, _ => fail
def qBin : Bop → D → D → M R
  | .add, x, y => qAdd x y
  | .sub, .int i, .int j => rd (.int (i - j))
  | .mul, .int i, .int j => need (CMul i j) (rd (.int (i * j)))
  | .fdiv, .int i, .int j => need (CDiv i j) (rd (.int (i / j)))
  | .mod, .int i, .int j => need (0 < j) (rd (.int (i % j)))
  | .rep, .lst xs, .int j => need (-(2 ^ 63) ≤ j ∧ j < 2 ^ 63 ∧ xs.length * j.toNat ≤ sizeLine) (ret (.nl (List.replicate j.toNat xs).flatten))
  | .pow, .int i, .int j => need (CPow i j) (rd (.int (i ^ j.toNat)))
  | _, _, _ => fail
mutual
def pd : D → PyData
  | .non => .none | .bl b => .bool b | .int i => .int i | .str x => .str x
  | .lst xs => .list (pds xs) | .tup xs => .tuple (pds xs)
  | .dct kvs => .dict [] | .dctT _ => .dict [] | .obj _ _ => .dict [] | .kt _ => .dict []
def pds : List D → List PyData
  | [] => []
  | x :: xs => pd x :: pds xs
end
def kyP : Key → PyData
  | .inl i => .int i
  | .inr x => .str x
mutual
/-- as repr tells it -/
def ps : D → PyData
  | .non => .none | .bl b => .bool b | .int i => .int i | .str x => .str x
  | .lst xs => .list (pss xs) | .tup xs => .tuple (pss xs) | .kt xs => .tuple (pss xs)
  | .dct kvs => .dict (psK kvs) | .dctT _ => .none | .obj _ _ => .none
def pss : List D → List PyData
  | [] => []
  | x :: xs => ps x :: pss xs
def psK : List (Key × D) → List (PyData × PyData)
  | [] => []
  | (k, d) :: r => (kyP k, ps d) :: psK r
end
mutual
def psOk : D → Bool
  | .lst xs => psOks xs | .tup xs => psOks xs | .kt xs => psOks xs
  | .dct kvs => psOkK kvs | .dctT _ => false | .obj _ _ => false
  | _ => true
def psOks : List D → Bool
  | [] => true
  | x :: xs => psOk x && psOks xs
def psOkK : List (Key × D) → Bool
  | [] => true
  | (_, d) :: r => psOk d && psOkK r
end
def reprOk (d : D) : Bool := psOk d && ((ps d).showable && decide ((ps d).depth ≤ 60))
/-- sorted, of data that can be compared -/
def srtD (xs : List D) : List D := xs.mergeSort (PySem.W.dataLe false pd)
def srtOk (xs : List D) : Prop := PySem.W.AllAlike (xs.map pd) ∧ PySem.W.Sortable (xs.map pd) ∧ ∀ d ∈ xs, (pd d).canLay0 = true ∧ (pd d).depth ≤ 60
/-- == of data -/
def eqD (x y : D) : Bool := PyData.eqv (pd x) (pd y)
def eqOk (x y : D) : Bool := SeqAt.shaped (pd x) && SeqAt.shaped (pd y)
def toV : D → V
  | .non => .non | .bl b => .bl b | .int i => .int i | .str x => .str x
  | _ => .non
def keyOf : D → Option Key
  | .int i => some (.inl i)
  | .str x => some (.inr x)
  | _ => none
def keyD : Key → D
  | .inl i => .int i
  | .inr x => .str x
def keysOf : List D → Option (List Key)
  | [] => some []
  | x :: xs => match keyOf x, keysOf xs with
    | some k, some ks => some (k :: ks)
    | _, _ => none
def look {κ : Type} [DecidableEq κ] (kvs : List (κ × D)) (k : κ) : Option D := (kvs.find? fun kv => decide (kv.1 = k)).map (·.2)
def putD {κ : Type} [DecidableEq κ] (kvs : List (κ × D)) (k : κ) (v : D) : List (κ × D) :=
  if (kvs.any fun kv => decide (kv.1 = k)) = true then kvs.map (fun kv => if kv.1 = k then (kv.1, v) else kv) else kvs ++ [(k, v)]
/-- the pairs of a list of pairs: keys, tuple keys -/
def asPairK : List D → Option (List (Key × D))
  | [] => some []
  | .tup [a, b] :: xs => match keyOf a, asPairK xs with
    | some k, some r => some ((k, b) :: r)
    | _, _ => none
  | _ :: _ => none
def asPairT : List D → Option (List (List Key × D))
  | [] => some []
  | .tup [.tup ks, b] :: xs => match keysOf ks, asPairT xs with
    | some k, some r => some ((k, b) :: r)
    | _, _ => none
  | _ :: _ => none
def dictOf {κ : Type} [DecidableEq κ] (kvs : List (κ × D)) : List (κ × D) := kvs.foldl (fun acc kv => putD acc kv.1 kv.2) []
def lstT : D → Option (List D)
  | .lst xs => some xs
  | .tup xs => some xs
  | _ => none
def inD (x : D) (xs : List D) : Bool := xs.any fun y => eqV (toV y) (toV x)
def qIn (neg : Bool) : D → D → M R
  | x, .lst xs => need (isScalar x = true ∧ xs.all isScalar = true) (rd (.bl (if neg then !inD x xs else inD x xs)))
  | x, .tup xs => need (isScalar x = true ∧ xs.all isScalar = true) (rd (.bl (if neg then !inD x xs else inD x xs)))
  | .str x, .dct kvs => rd (.bl (if neg then !(look kvs (.inr x)).isSome else (look kvs (.inr x)).isSome))
  | .int x, .dct kvs => rd (.bl (if neg then !(look kvs (.inl x)).isSome else (look kvs (.inl x)).isSome))
  | .str ⟨#[c]⟩, .str z => rd (.bl (if neg then !decide (c ∈ z.cps.toList) else decide (c ∈ z.cps.toList)))
  | _, _ => fail
def qEq (neg : Bool) (x y : D) : M R :=
  if scal (toV x) (toV y) && (isScalar x && isScalar y) then rd (.bl (if neg then !decide (toV x = toV y) else decide (toV x = toV y)))
  else need (eqOk x y = true) (rd (.bl (if neg then !eqD x y else eqD x y)))
/-- x in xs where x is any data: a dict among texts, else data that can be compared -/
def isStr : D → Bool
  | .str _ => true
  | _ => false
def inOkD : D → List D → Bool
  | .dct _, xs => xs.all isStr
  | x, xs => SeqAt.shaped (pd x) && SeqAt.shaped (pd (.lst xs))
def inAnyD : D → List D → Bool
  | .dct _, _ => false
  | x, xs => xs.any fun y => eqD y x
def qInD (neg : Bool) : D → D → M R
  | x, .lst xs => need (inOkD x xs = true) (rd (.bl (if neg then !inAnyD x xs else inAnyD x xs)))
  | _, _ => fail
/-- == of dicts with whole numbers -/
def isIntD : D → Bool
  | .int _ => true
  | _ => false
def dEq (a b : List (Key × D)) : Bool := decide (a.length = b.length) && a.all fun kv => match look b kv.1 with
  | some d => decide (toV kv.2 = toV d)
  | none => false
def qEqd (neg : Bool) : D → D → M R
  | .dct a, .dct b => need ((a.all fun kv => isIntD kv.2) = true ∧ (b.all fun kv => isIntD kv.2) = true) (rd (.bl (if neg then !dEq a b else dEq a b)))
  | _, _ => fail
def qCmp : Cop → D → D → M R
  | .lt, .int i, .int j => rd (.bl (decide (i < j)))
  | .le, .int i, .int j => rd (.bl (decide (i ≤ j)))
  | .gt, .int i, .int j => rd (.bl (decide (j < i)))
  | .ge, .int i, .int j => rd (.bl (decide (j ≤ i)))
  | .lt, .str a, .str b => rd (.bl (decide (a.cps.toList < b.cps.toList)))
  | .eq, x, y => qEq false x y
  | .ne, x, y => qEq true x y
  | .isin, x, y => qIn false x y
  | .notin, x, y => qIn true x y
  | .isn, .non, .non => rd (.bl true)
  | .isn, _, .non => rd (.bl false)
  | .notn, .non, .non => rd (.bl false)
  | .notn, _, .non => rd (.bl true)
  | .isinD, x, y => qInD false x y
  | .notinD, x, y => qInD true x y
  | .eqd, x, y => qEqd false x y
  | .ned, x, y => qEqd true x y
  | _, _, _ => fail
def cutD (xs : List D) (lo hi : Option Int) : List D := (xs.drop (HT.sIx xs.length 0 lo)).take (HT.sIx xs.length xs.length hi - HT.sIx xs.length 0 lo)
def qIdx : D → D → M R
  | .lst xs, .int i => fun s k _ => match atI xs i with
    | some x => k (.fz x) s
    | none => False
  | .tup xs, .int i => fun s k _ => match atI xs i with
    | some x => k (.fz x) s
    | none => False
  | .str z, .int i => fun s k _ => z.length ≤ sizeLine ∧ match atI z.cps.toList i with
    | some c => k (.fz (.str ⟨#[c]⟩)) s
    | none => False
  | .dct kvs, .str x => fun s k _ => match look kvs (.inr x) with
    | some x => k (.fz x) s
    | none => False
  | .dct kvs, .int x => fun s k _ => match look kvs (.inl x) with
    | some x => k (.fz x) s
    | none => False
  | .dctT kvs, .tup xs => fun s k _ => match keysOf xs with
    | some ks => (match look kvs ks with
      | some x => k (.fz x) s
      | none => False)
    | none => False
  | _, _ => fail
def qSli : D → Option Int → Option Int → M R
  | .lst xs, lo, hi => ret (.nl (cutD xs lo hi))
  | .tup xs, lo, hi => rd (.tup (cutD xs lo hi))
  | _, _, _ => fail
def asInts : List D → Option (List Int)
  | [] => some []
  | .int i :: xs => (asInts xs).map (i :: ·)
  | _ :: _ => none
def asStrs : List D → Option (List Str)
  | [] => some []
  | .str i :: xs => (asStrs xs).map (i :: ·)
  | _ :: _ => none
def asBls : List D → Option (List Bool)
  | [] => some []
  | .bl i :: xs => (asBls xs).map (i :: ·)
  | _ :: _ => none
def zipD : List D → List D → List D
  | x :: xs, y :: ys => .tup [x, y] :: zipD xs ys
  | _, _ => []
def qBi : Bi → List D → M R
  | .len, [.lst xs] => rd (.int xs.length)
  | .len, [.tup xs] => rd (.int xs.length)
  | .len, [.str x] => need (x.length ≤ sizeLine) (rd (.int x.length))
  | .len, [.dct kvs] => rd (.int kvs.length)
  | .list, [.lst xs] => ret (.nl xs)
  | .list, [.tup xs] => ret (.nl xs)
  | .list, [.dct kvs] => ret (.nl (kvs.map fun kv => keyD kv.1))
  | .tuple, [.lst xs] => rd (.tup xs)
  | .tuple, [.tup xs] => rd (.tup xs)
  | .all, [.lst xs] => fun s k _ => match asBls xs with
    | some bs => k (.fz (.bl (bs.all id))) s
    | none => False
  | .any, [.lst xs] => fun s k _ => match asBls xs with
    | some bs => k (.fz (.bl (bs.any id))) s
    | none => False
  | .sum, [.lst xs] => fun s k _ => match asInts xs with
    | some ns => k (.fz (.int ns.sum)) s
    | none => False
  | .max, [.lst xs] => fun s k _ => match asInts xs with
    | some ns => 0 < ns.length ∧ ∀ m, m ∈ ns → (∀ y, y ∈ ns → y ≤ m) → k (.fz (.int m)) s
    | none => False
  | .min, [.lst xs] => fun s k _ => match asInts xs with
    | some ns => 0 < ns.length ∧ ∀ m, m ∈ ns → (∀ y, y ∈ ns → m ≤ y) → k (.fz (.int m)) s
    | none => False
  | .max2, [.int i, .int j] => rd (.int (if j > i then j else i))
  | .min2, [.int i, .int j] => rd (.int (if j < i then j else i))
  | .int, [.int i] => rd (.int i)
  | .int, [.bl b] => rd (.int (if b then 1 else 0))
  | .int, [.str x] => fun s k _ => match PySem.intText? x with
    | some n => x.length ≤ 640 ∧ k (.fz (.int n)) s
    | none => False
  | .str, [.int i] => need (i.natAbs.log2 < 1920) (rd (.str (toString i)))
  | .str, [.str x] => rd (.str x)
  | .sorted, [.lst xs] => need (srtOk xs) (ret (.nl (srtD xs)))
  | .sorted, [.tup xs] => fun s k _ => match asStrs xs with
    | some ys => ys.length < 64 ∧ k (.nl (srtD (ys.map D.str))) s
    | none => False
  | .sorted, [.dct kvs] => fun s k _ => match asStrs (kvs.map fun kv => keyD kv.1) with
    | some ys => ys.length < 64 ∧ k (.nl (srtD (ys.map D.str))) s
    | none => False
  | .dict, [.dct kvs] => ret (.nd kvs)
  | .dict, [.lst xs] => fun s k _ => match asPairK xs with
    | some kvs => k (.nd (dictOf kvs)) s
    | none => (match asPairT xs with
      | some kvs => k (.fz (.dctT (dictOf kvs))) s
      | none => False)
  | .repr, [d] => need (reprOk d = true ∧ (ps d).shown.length ≤ sizeLine) (rd (.str (ps d).shown))
  | .lenset, [d] => fun s k _ => match (lstT d).bind keysOf with
    | some ks => ks.length + 1 < 4096 ∧ ∀ zs : List Key, zs.Nodup → (∀ x, x ∈ zs ↔ x ∈ ks) → k (.fz (.int zs.length)) s
    | none => False
  | .zip, [.lst xs, .lst ys] => ret (.nl (zipD xs ys))
  | .setsort, [d] => fun s k _ => match (lstT d).bind keysOf with
    | some ks => ks.length + 1 < 4096 ∧ PySem.W.AllAlike (ks.map fun k => pd (keyD k)) ∧ ∀ zs : List Key, zs.Nodup → (∀ x, x ∈ zs ↔ x ∈ ks) → k (.nl (srtD (zs.map keyD))) s
    | none => False
  | _, _ => fail
/-- the kind of a value, as isinstance asks of it -/
def tyD : D → Ty
  | .non => .b "NoneType" | .bl _ => .b "bool" | .int _ => .b "int" | .str _ => .b "str"
  | .lst _ => .b "list" | .tup _ => .b "tuple" | .dct _ => .b "dict" | .dctT _ => .b "dictT"
  | .obj c _ => .own c
  | .kt _ => .b "tuple"
def isTy : Ty → Ty → Bool
  | .b a, .b b => a == b || (a == "bool" && b == "int")
  | .own a, .own b => decide (a = b)
  | _, _ => false
def isAny (t : Ty) (ts : List Ty) : Bool := ts.any (isTy t)
def kindsB : List String := ["NoneType", "bool", "int", "str", "list", "tuple", "dict"]
def bltTy : Ty → Bool
  | .b n => kindsB.contains n
  | .own _ => false
def qIsi (d : D) (ts : List Ty) : M R := need (bltTy (tyD d) = true ∧ ts.all bltTy = true) (rd (.bl (isAny (tyD d) ts)))
def fld (fs : List (Str × D)) (f : Str) : Option D := (fs.find? fun kv => decide (kv.1 = f)).map (·.2)
/-- what a loop over data gives -/
def seqXs : D → M (List D)
  | .lst xs => ret xs
  | .tup xs => ret xs
  | .kt xs => ret xs
  | .dct kvs => ret (kvs.map fun kv => keyD kv.1)
  | .dctT kvs => ret (kvs.map fun kv => .tup (kv.1.map keyD))
  | .str z => need (z.length ≤ sizeLine) (ret (z.cps.toList.map fun c => .str ⟨#[c]⟩))
  | _ => fail
def enumD (n : Nat) : List D → List D
  | [] => []
  | x :: xs => .tup [.int n, x] :: enumD (n + 1) xs
def rangeD (lo : Int) : Nat → List D
  | 0 => []
  | n + 1 => .int lo :: rangeD (lo + 1) n
def noX : XC := fun _ _ => False
def noXc : XCc := fun _ _ => False
/-- what is wanted of an error that a def lets out, the slots as they are -/
def XC.at (e : XC) (s : S) : XCc := fun xn c => e xn { s with c := c }
def noIo (l : List Nat) (sl : List (Option P)) : Bool := l.all fun i => !isIo (gt sl i)
def lcGo {α : Type} (tg : Tg) (test : M Bool) (elt : M α) : List D → List α → M (List α)
  | [], acc => ret acc
  | x :: xs, acc => fun s k e => noIo tg.ix s.sl = true ∧ bindT tg x { s with sl := wipeS tg.ix s.sl } (fun _ s1 => test s1 (fun b s2 => match b with
    | true => elt s2 (fun y s3 => lcGo tg test elt xs (acc ++ [y]) s3 k e) noX
    | false => lcGo tg test elt xs acc s2 k e) noX) noX
inductive Av where | st | v (x : VR)
/-- a slot's own list that is lent -/
def resL : VR → M D
  | .d d => ret d
  | .sl i => fun s k _ => match gt s.sl i with
    | some (.fz d) => k d s
    | some (.own xs) => k (.lst xs) s
    | some (.io xs) => k (.lst xs) s
    | _ => False
def resA : List Av → M (List (Option D))
  | [] => ret []
  | .st :: r => bnd (resA r) fun ds => ret (none :: ds)
  | .v x :: r => bnd (resL x) fun d => bnd (resA r) fun ds => ret (some d :: ds)
def sclR : R → Bool
  | .fz d => isScalar d
  | _ => false
/-- a def by its contract -/
def callC (con : Con) (scal : Bool) (as : List (Option D)) : M R := fun s k e =>
  con as s.c (fun r c' => (scal = true → sclR r = true) ∧ k r { s with c := c' }) (fun xn c' => (scal = true → (xn.2.all fun f => isScalar f.2) = true) ∧ e xn { s with c := c' })
def dflTail (dfl : List D) (nd : Nat) : List (Option D) := (dfl.drop (dfl.length - nd)).map some
def popL (xs : List D) : Option Int → Option (D × List D)
  | none => match xs.reverse with
    | x :: r => some (x, r.reverse)
    | [] => none
  | some i => match (ixN xs.length i) with
    | some j => (xs[j]?).map fun x => (x, xs.eraseIdx j)
    | none => none
def qPop (i : Nat) (o : Option Int) : M R := fun s k _ => match gt s.sl i with
  | some (.own xs) => (match popL xs o with
    | some (x, ys) => k (.fz x) { s with sl := pt s.sl i (some (.own ys)) }
    | none => False)
  | some (.io xs) => (match popL xs o with
    | some (x, ys) => k (.fz x) { s with sl := pt s.sl i (some (.io ys)) }
    | none => False)
  | _ => False
/-- the slot holds a list of one's own -/
def qHas (i : Nat) : M Unit := fun s k _ => match gt s.sl i with
  | some (.own _) => k () s
  | some (.io _) => k () s
  | _ => False
def qJoin : D → D → M R
  | .str a, .lst xs => fun s k _ => match asStrs xs with
    | some ys => (ys.map (·.length)).sum + ys.length * a.length ≤ 16777216 ∧ k (.fz (.str (Txt.join a ys))) s
    | none => False
  | _, _ => fail
def qSplit : D → D → M R
  | .str a, .str b => need ((b.length == 0) = false ∧ a.length + 2 ≤ sizeLine) (ret (.nl ((Txt.split a b).map D.str)))
  | _, _ => fail
def isLst : D → Bool
  | .lst _ => true
  | _ => false
def isDct : D → Bool
  | .dct _ => true
  | _ => false
/-- xs.index(x) of texts -/
def qIndex : D → D → M R
  | .lst xs, .str m => fun s k _ => match asStrs xs with
    | some ys => m ∈ ys ∧ k (.fz (.int (ys.idxOf m : Nat))) s
    | none => False
  | _, _ => fail
/-- o.get(k, d) -/
def qGet : D → D → D → M R
  | .dct kvs, .str m, d => rd ((look kvs (.inr m)).getD d)
  | .dct kvs, .int i, d => rd ((look kvs (.inl i)).getD d)
  | _, _, _ => fail
def asInt : D → M Int
  | .int i => ret i
  | _ => fail
/-- the readings of an expression: its value, its truth, what a loop over it gives -/
structure Sm where
  r : M R
  t : M Bool
  s : M (List D)
def vwOf : Ex → M R → M VR
  | .var i, _ => fun s k _ => match gt s.sl i with
    | some (.fz d) => k (.d d) s
    | some (.own _) => k (.sl i) s
    | some (.io _) => k (.sl i) s
    | some (.ownd _) => k (.sl i) s
    | _ => False
  | _, f => bnd (toD f) fun d => ret (.d d)
/-- an argument that is lent; one that stays -/
def avOf : Ex → M R → M Av
  | .var i, f => fun s k e => match gt s.sl i with
    | some .stm => k .st s
    | _ => vwOf (.var i) f s (fun x => k (.v x)) e
  | _, f => bnd (toD f) fun d => ret (.v (.d d))
def bvOf : Ex → M R → M (Option D)
  | .var i, f => fun s k e => match gt s.sl i with
    | some .stm => k none s
    | _ => toD f s (fun d => k (some d)) e
  | _, f => bnd (toD f) fun d => ret (some d)
def truOk : D → Prop
  | .str x => x.length ≤ sizeLine
  | .dct _ => False | .dctT _ => False | .obj _ _ => False | .kt _ => False
  | _ => True
def qTru (d : D) : M Bool := need (truOk d) (ret (truth d))
def dfT (e : Ex) (f : M R) : M Bool := bnd (vwOf e f) fun x => bnd (res x) qTru
def dfS (f : M R) : M (List D) := bnd (toD f) seqXs
def sm (e : Ex) (f : M R) : Sm := ⟨f, dfT e f, dfS f⟩
def ress : List VR → M (List D)
  | [] => ret []
  | x :: xs => bnd (res x) fun d => bnd (ress xs) fun ds => ret (d :: ds)
def srcB : Bi → List (M R) → M R → M (List D)
  | .range, [a], _ => bnd (toD a) fun d => bnd (asInt d) fun n => need (-(2 ^ 62) ≤ n ∧ n ≤ 16777216) (ret (rangeD 0 n.toNat))
  | .range, [a, b], _ => bnd (toD a) fun d => bnd (toD b) fun d' => bnd (asInt d) fun m => bnd (asInt d') fun n =>
    need (-(2 ^ 62) ≤ m ∧ m < 2 ^ 62 ∧ -(2 ^ 62) ≤ n ∧ n < 2 ^ 62 ∧ n - m ≤ 16777216) (ret (rangeD m (n - m).toNat))
  | .enum, [a], _ => bnd (toD a) fun d => match d with
    | .lst xs => ret (enumD 0 xs)
    | .tup xs => ret (enumD 0 xs)
    | .kt xs => ret (enumD 0 xs)
    | _ => fail
  | .zip, [a, b], _ => bnd (toD a) fun d => bnd (toD b) fun d' => match d, d' with
    | .lst xs, .lst ys => ret (zipD xs ys)
    | _, _ => fail
  | _, _, f => dfS f
def pair (a : D) (b : D) : M (Key × D) := fun s k _ => match keyOf a with
  | some key => k (key, b) s
  | none => False
def wiped {α : Type} (l : List Nat) (a : α) : M α := fun s k _ => noIo l s.sl = true ∧ k a { s with sl := wipeS l s.sl }
def qAtt (c f : Str) : D → M R
  | .obj c' fs => fun s k _ => c' = c ∧ match fld fs f with
    | some x => k (.fz x) s
    | none => False
  | _ => fail
/-- a list of one's own is walked through; meanwhile nobody has it -/
def lockL (i : Nat) (f : List D → M R) : M R := fun s k e => match gt s.sl i with
  | some (.own xs) => f xs { s with sl := pt s.sl i none } (fun r s' => match r with
    | .nl ys => gt s'.sl i = none ∧ k (.nl ys) { s' with sl := pt s'.sl i (some (.own xs)) }
    | _ => False) e
  | _ => False
/-- isinstance of an own class -/
def qIsO (c : Str) : D → M R
  | .obj c' _ => need (c' = c) (rd (.bl true))
  | _ => fail
/-- what an own __iter__ over a field goes through -/
def qItO (c f : Str) : D → M (List D)
  | .obj c' fs => fun s k _ => c' = c ∧ match fld fs f with
    | some (.tup xs) => k xs s
    | _ => False
  | _ => fail
def qCst (Γ : Env) (x : Str) : M R := fun s k _ => match Γ.cst x with
  | some d => k (.fz d) s
  | none => False
def qNeg : D → M R
  | .int i => rd (.int (-i))
  | _ => fail
def qRev : D → M R
  | .lst xs => ret (.nl xs.reverse)
  | _ => fail
/-- by a truth: one way or the other -/
def byB {α : Type} (a b : M α) : D → M α
  | .bl true => a
  | .bl false => b
  | _ => fail
def byb {α : Type} (a b : M α) : Bool → M α
  | true => a
  | false => b
/-- a def by its contract: what is handed to one that gives a plain value back is lent, else it stays -/
def callE (e : Option FE) (self : List (Option D)) (lent : M (List Av)) (args : M (List (Option D))) (nd : Nat) : M R := match e with
  | some (.pl con true dfl) => bnd lent fun as => bnd (resA as) fun ds => callC con true (self ++ (ds ++ dflTail dfl nd))
  | some (.pl con false dfl) => bnd args fun ds => callC con false (self ++ (ds ++ dflTail dfl nd))
  | _ => fail
def callM (Γ : Env) (c m : Str) (lent : M (List Av)) (args : M (List (Option D))) (nd : Nat) : D → M R
  | .obj c' fs => need (c' = c ∧ fld fs m = none) (callE (Γ.mth c m) [some (.obj c fs)] lent args nd)
  | _ => fail
/-- == by an own __eq__ -/
def notB (neg : Bool) : R → M R
  | .fz (.bl b) => rd (.bl (if neg then !b else b))
  | _ => fail
def qOeq (Γ : Env) (c : Str) (neg : Bool) : D → D → M R
  | .obj c' fs, .obj c'' gs => need (c' = c ∧ c'' = c) (match Γ.mth c "__eq__" with
    | some (.pl con _ _) => fun s k _ => (bnd (callC con false [some (.obj c fs), some (.obj c gs)]) (notB neg)) s k noX
    | _ => fail)
  | _, _ => fail
/-- truth by an own __bool__ -/
def qBoolO (Γ : Env) (c : Str) : D → M R
  | .obj c' fs => need (c' = c) (match Γ.mth c "__bool__" with
    | some (.pl con _ _) => fun s k _ => callC con false [some (.obj c fs)] s (fun r s' => match r with
      | .fz (.bl b) => k (.fz (.bl b)) s'
      | _ => False) noX
    | _ => fail)
  | _ => fail
/-- a call that changes the list in the slot at one place of its arguments -/
def argIO : List Ex → Nat → Option Nat
  | .var i :: _, 0 => some i
  | _ :: es, n + 1 => argIO es n
  | _, _ => none
def hasOf : Ex → M Unit
  | .var i => qHas i
  | _ => fail
def ioIx (Γ : Env) (f : Str) : Nat := match Γ.fn f with
  | some (.io ix _) => ix
  | _ => 0
def callIO (Γ : Env) (f : Str) (es : List Ex) (args : M (List (Option D))) : M R := match Γ.fn f with
  | some (.io ix con) => (match argIO es ix with
    | some i => bnd args fun ds => fun s k e => (match gt s.sl i with
      | some (.own xs) => con ds xs s.c (fun r ys c' => k r { sl := pt s.sl i (some (.own ys)), c := c' }) noXc
      | _ => False)
    | none => fail)
  | _ => fail
def qDct : List Ex → List Ex → M R
  | [], [] => ret (.nd [])
  | _, _ => fail
/-- what a lambda is given of the slots: those that it names are frozen, one's own other ones are hid -/
def frzP : Option P → Option P
  | some (.own xs) => some (.fz (.lst xs))
  | some (.ownd kvs) => some (.fz (.dct kvs))
  | p => p
def frzS : List Nat → List (Option P) → List (Option P)
  | [], l => l
  | i :: is, l => frzS is (pt l i (frzP (gt l i)))
def hideP : Option P → Option P
  | some (.fz d) => some (.fz d)
  | some .stm => some .stm
  | some (.df x) => some (.df x)
  | _ => none
def tell (o : Option D) (s : S) (c : Stm) (k : R → S → Prop) : Prop := match o with
  | some d => k (.fz d) { s with c := c }
  | none => False
def askE (a : Option Ask) (caps : List Nat) (f : M R) : M R := match a with
  | some a => fun s k _ => f ⟨(frzS caps s.sl).map hideP, s.c⟩ (fun r s' => tell (a.val r.d) { s with sl := frzS caps s.sl } s'.c k) (fun xn s' => tell (a.err xn) { s with sl := frzS caps s.sl } s'.c k)
  | none => fail
structure En where
  nx : S → Prop
  rt : R → S → Prop
  bk : S → Prop
  ct : S → Prop
  ex : XC
abbrev QS := En → S → Prop
/-- a def called by its parameter; one that is handed a lambda -/
def slotOf : Option D → Option P
  | none => some .stm
  | some d => some (.fz d)
def startS (n : Nat) (as : List (Option D)) : List (Option P) := as.map slotOf ++ List.replicate (n - as.length) none
def callPar (par : Option (Addr × List V × Con)) (i : Nat) (args : M (List (Option D))) : M R := fun s k e => match gt s.sl i, par with
  | some (.fn fa ws ds), some (fa', ws', con) => (fa' = fa ∧ ws' = ws) ∧ args s (fun as s1 => con (as ++ ds.map some) s1.c (fun r c' => k r { s1 with c := c' }) noXc) e
  | _, _ => False
def capsD : List Nat → List (Option P) → Option (List D)
  | [], _ => some []
  | i :: is, sl => match gt sl i, capsD is sl with
    | some (.fz d), some ds => some (d :: ds)
    | _, _ => none
/-- a lambda as a contract: its parameters, what it captured -/
def lamCon (m n : Nat) (f : M R) : Con := fun as c K _ => as.length = m ∧ f ⟨startS n as, c⟩ (fun r s => K r s.c) noX
def callLam (fe : Option FE) (caps : List Nat) (m n : Nat) (args : M (List (Option D))) (f : M R) : M R := match fe with
  | some (.fp conF) => bnd args fun as => fun s k e => match capsD caps (frzS caps s.sl) with
    | some ds => conF (lamCon m n f) ds as s.c (fun r c' => k r { sl := frzS caps s.sl, c := c' }) noXc
    | none => False
  | _ => fail
/-- a def that is lent a dict of one's own, ahead of its other arguments; it gives a plain value back -/
def callOw (fe : Option FE) (i : Nat) (args : M (List (Option D))) (nd : Nat) : M R := match fe with
  | some (.pl con _ dfl) => fun s k e => match gt s.sl i with
    | some (.ownd _) => args s (fun ds s1 => match gt s1.sl i with
      | some (.ownd kvs) => callC con true (some (.dct kvs) :: (ds ++ dflTail dfl nd)) s1 k noX
      | _ => False) e
    | _ => False
  | _ => fail
/-- a def that a slot holds -/
def callDf (i : Nat) (xs : List Str) (f : Str → M R) : M R := fun s k e => match gt s.sl i with
  | some (.df x) => x ∈ xs ∧ f x s k e
  | _ => False
def forDf (i : Nat) (body : QS) : List Str → QS
  | [], n, s => n.nx s
  | x :: xs, n, s => isIo (gt s.sl i) = false ∧ body { n with nx := forDf i body xs n, ct := forDf i body xs n, bk := n.nx } { s with sl := pt s.sl i (some (.df x)) }
/-- the object that is being made -/
def qAttI (i : Nat) (c f : Str) : M R := fun s k _ => match gt s.sl i with
  | some (.ini c' fs) => c' = c ∧ match fld fs f with
    | some x => k (.fz x) s
    | none => False
  | _ => False
def putFd (f : Str) (d : D) : List (Str × D) → List (Str × D)
  | [] => [(f, d)]
  | p :: r => if p.1 = f then (f, d) :: r else p :: putFd f d r
def qFld (i : Nat) (c f : Str) (d : D) : M Unit := fun s k _ => match gt s.sl i with
  | some (.ini c' fs) => (c' = c ∧ fs.length < 1000) ∧ k () { s with sl := pt s.sl i (some (.ini c (putFd f d fs))) }
  | _ => False
/-- the keys of things by a lambda of one parameter: its own frame holds the thing and what it captured -/
def keysGo (caps : List Nat) (n : Nat) (f : M D) : List D → List D → M (List D)
  | [], acc => ret acc
  | x :: xs, acc => fun s k e => match capsD caps s.sl with
    | some ds => f ⟨startS n (some x :: ds.map some), s.c⟩ (fun d s' => s'.c = s.c ∧ keysGo caps n f xs (acc ++ [d]) s k e) noX
    | none => False
section
variable (Γ : Env)
mutual
def evP : Ex → Sm
  | .var i => sm (.var i) (qVar i)
  | .int i => sm (.int i) (rd (.int i))
  | .str x => sm (.str x) (rd (.str x))
  | .bl b => sm (.bl b) (rd (.bl b))
  | .non => sm .non (rd .non)
  | .cst x => sm (.cst x) (qCst Γ x)
  | .bin op a b => sm .non (bnd (vwOf a (evP a).r) fun x => bnd (vwOf b (evP b).r) fun y => bnd (res x) fun dx => bnd (res y) fun dy => qBin op dx dy)
  | .neg a => sm .non (bnd (toD (evP a).r) qNeg)
  | .cmp op a b => sm .non (bnd (vwOf a (evP a).r) fun x => bnd (vwOf b (evP b).r) fun y => bnd (res x) fun dx => bnd (res y) fun dy => qCmp op dx dy)
  | .cmp2 op op' a b c => sm .non (bnd (toD (evP a).r) fun x => bnd (toD (evP b).r) fun y => bnd (toD (qCmp op x y)) (byB (bnd (toD (evP c).r) fun z => qCmp op' y z) (rd (.bl false))))
  | .and a b => ⟨bnd (toD (evP a).r) (byB (ofD (toD (evP b).r)) (rd (.bl false))), bnd (evP a).t (byb (evP b).t (ret false)), fail⟩
  | .or a b => ⟨bnd (toD (evP a).r) (byB (rd (.bl true)) (ofD (toD (evP b).r))), bnd (evP a).t (byb (ret true) (evP b).t), fail⟩
  | .not a => ⟨bnd (dfT a (evP a).r) fun b => rd (.bl (!b)), bnd (evP a).t fun b => ret (!b), fail⟩
  | .ite t a b => sm .non (bnd (evP t).t (byb (evP a).r (evP b).r))
  | .lst es => sm .non (bnd (evs es) fun ds => need (ds.length ≤ sizeLine) (ret (.nl ds)))
  | .tup es => sm .non (bnd (evs es) fun ds => need (ds.length ≤ sizeLine) (rd (.tup ds)))
  | .dct ks vs => sm .non (qDct ks vs)
  | .call f es nd => sm .non (callE (Γ.fn f) [] (evA es) (evB es) nd)
  | .bi f es => let f' := bnd (vws es) fun xs => bnd (ress xs) fun ds => qBi f ds
    ⟨f', dfT .non f', srcB f (rs es) f'⟩
  | .isi e ts => sm .non (bnd (vwOf e (evP e).r) fun x => bnd (res x) fun d => qIsi d ts)
  | .mth c o m es nd => sm .non (bnd (toD (evP o).r) (callM Γ c m (evA es) (evB es) nd))
  | .att c o f => sm .non (bnd (toD (evP o).r) (qAtt c f))
  | .idx o i => sm .non (bnd (vwOf o (evP o).r) fun x => bnd (vwOf i (evP i).r) fun y => bnd (res x) fun dx => bnd (res y) fun dy => qIdx dx dy)
  | .sli o lo hi => sm .non (bnd (vwOf o (evP o).r) fun x => bnd (evO lo) fun l => bnd (evO hi) fun h => bnd (res x) fun dx => qSli dx l h)
  | .rev o => sm .non (bnd (vwOf o (evP o).r) fun x => bnd (res x) qRev)
  | .join o e => sm .non (bnd (vwOf o (evP o).r) fun x => bnd (vwOf e (evP e).r) fun y => bnd (res x) fun dx => bnd (res y) fun dy => qJoin dx dy)
  | .split o e => sm .non (bnd (vwOf o (evP o).r) fun x => bnd (vwOf e (evP e).r) fun y => bnd (res x) fun dx => bnd (res y) fun dy => qSplit dx dy)
  | .index o e => sm .non (bnd (toD (evP o).r) fun dx => need (isLst dx = true) (bnd (toD (evP e).r) fun dy => qIndex dx dy))
  | .get o k d => sm .non (bnd (toD (evP o).r) fun dx => need (isDct dx = true) (bnd (toD (evP k).r) fun dk => bnd (toD (evP d).r) fun dd => qGet dx dk dd))
  | .items _ => sm .non fail
  | .lc src tg ifs elt => sm .non (bnd (evP src).s fun xs => bnd (lcGo tg (evTs ifs) (toD (evP elt).r) xs []) fun ys => wiped tg.ix (.nl ys))
  | .dc src tg ifs kx v => sm .non (bnd (evP src).s fun xs => bnd (lcGo tg (evTs ifs) (bnd (toD (evP kx).r) fun a => bnd (toD (evP v).r) fun b => pair a b) xs []) fun kvs => wiped tg.ix (.nd (dictOf kvs)))
  | .io f es => sm .non (callIO Γ f es (evIO es (ioIx Γ f)))
  | .lam f caps e => sm .non (askE (Γ.ask f) caps (evP e).r)
  | .boolO c a => sm .non (bnd (toD (evP a).r) (qBoolO Γ c))
  | .callO f i es nd => sm .non (callOw (Γ.fn f) i (evB es) nd)
  | .opx f es => sm .non (bnd (vws es) fun xs => bnd (ress xs) f)
  | .keyed f src caps n e => sm .non (bnd (evP src).s fun xs => bnd (keysGo caps n (toD (evP e).r) xs []) fun ys => f xs ys)
  | .callD i xs es nd => sm .non (callDf i xs fun x => callE (Γ.fn x) [] (evA es) (evB es) nd)
  | .callP i es => sm .non (callPar Γ.par i (evB es))
  | .callL f es caps m n e => sm .non (callLam (Γ.fn f) caps m n (evB es) (evP e).r)
  | .attI i c f => sm .non (qAttI i c f)
  | .lcv i tg ifs elt => sm .non (lockL i fun xs => bnd (lcGo tg (evTs ifs) (toD (evP elt).r) xs []) fun ys => wiped tg.ix (.nl ys))
  | .oeq c neg a b => sm .non (bnd (toD (evP a).r) fun x => bnd (toD (evP b).r) fun y => qOeq Γ c neg x y)
  | .isO e c => sm .non (bnd (vwOf e (evP e).r) fun x => bnd (res x) (qIsO c))
  | .itO c f e => ⟨fail, dfT .non fail, bnd (toD (evP e).r) (qItO c f)⟩
  | .pop i none => sm .non (qPop i none)
  | .pop i (some e) => sm .non (bnd (qHas i) fun _ => bnd (toD (evP e).r) fun d => bnd (asInt d) fun j => need (-(2 ^ 63) ≤ j ∧ j < 2 ^ 63) (qPop i (some j)))
def evs : List Ex → M (List D)
  | [] => ret []
  | e :: es => bnd (toD (evP e).r) fun d => bnd (evs es) fun ds => ret (d :: ds)
def rs : List Ex → List (M R)
  | [] => []
  | e :: es => (evP e).r :: rs es
def evO : Option Ex → M (Option Int)
  | none => ret none
  | some e => bnd (toD (evP e).r) fun d => bnd (asInt d) fun i => ret (some i)
def vws : List Ex → M (List VR)
  | [] => ret []
  | e :: es => bnd (vwOf e (evP e).r) fun d => bnd (vws es) fun ds => ret (d :: ds)
def evA : List Ex → M (List Av)
  | [] => ret []
  | e :: es => bnd (avOf e (evP e).r) fun a => bnd (evA es) fun as => ret (a :: as)
def evB : List Ex → M (List (Option D))
  | [] => ret []
  | e :: es => bnd (bvOf e (evP e).r) fun a => bnd (evB es) fun as => ret (a :: as)
/-- arguments; the slot that is changed stands for itself -/
def evIO : List Ex → Nat → M (List (Option D))
  | [], _ => fail
  | e :: es, 0 => bnd (hasOf e) fun _ => bnd (evB es) fun as => ret (none :: as)
  | e :: es, n + 1 => bnd (bvOf e (evP e).r) fun a => bnd (evIO es n) fun as => ret (a :: as)
def evTs : List Ex → M Bool
  | [] => ret true
  | e :: es => bnd (evP e).t (byb (evTs es) (ret false))
end
end
inductive Sx where
  | asg (i : Nat) (e : Ex) | asgT (t : Tg) (e : Ex) | par (is : List Nat) (es : List Ex) | aug (i : Nat) (op : Bop) (e : Ex)
  | app (i : Nat) (e : Ex) | ext (i : Nat) (e : Ex) | rem (i : Nat) (e : Ex) | put (i : Nat) (k v : Ex)
  | ex (e : Ex) | ret (e : Ex) | retN
  | ite (t : Ex) (a b : List Sx) | for_ (t : Tg) (src : Ex) (body : List Sx) | while_ (t : Ex) (body : List Sx)
  | raise (c : Str) (fs : List Str) (es : List Ex) | pass | brk | cont | never
  | fld (i : Nat) (c f : Str) (e : Ex) | forD (i : Nat) (xs : List Str) (body : List Sx)
  | mut (i : Nat) (f : P → List D → Option P) (es : List Ex)
  | asgF (i : Nat) (e : Ex) | augS (i : Nat) (k : Ex) (op : Bop) (e : Ex) | parS (i j l : Nat) (a b : Ex)
def qApp (i : Nat) (d : D) : M Unit := fun s k _ => match gt s.sl i with
  | some (.own xs) => xs.length < sizeLine ∧ k () { s with sl := pt s.sl i (some (.own (xs ++ [d]))) }
  | some (.io xs) => xs.length < sizeLine ∧ k () { s with sl := pt s.sl i (some (.io (xs ++ [d]))) }
  | _ => False
def qExt (i : Nat) (d : D) : M Unit := fun s k _ => match gt s.sl i, d with
  | some (.own xs), .lst ys => xs.length + ys.length ≤ sizeLine ∧ k () { s with sl := pt s.sl i (some (.own (xs ++ ys))) }
  | some (.io xs), .lst ys => xs.length + ys.length ≤ sizeLine ∧ k () { s with sl := pt s.sl i (some (.io (xs ++ ys))) }
  | _, _ => False
def qRem (i : Nat) (d : D) : M Unit := fun s k _ => match gt s.sl i, d with
  | some (.own xs), .str x => (match asStrs xs with
    | some ys => x ∈ ys ∧ k () { s with sl := pt s.sl i (some (.own ((ys.erase x).map D.str))) }
    | none => False)
  | _, _ => False
def qPut (i : Nat) (kd v : D) : M Unit := fun s k _ => match gt s.sl i with
  | some (.own xs) => (match kd with
    | .int j => (match ixN xs.length j with
      | some n => k () { s with sl := pt s.sl i (some (.own (xs.set n v))) }
      | none => False)
    | _ => False)
  | some (.ownd kvs) => (match keyOf kd with
    | some key => kvs.length < sizeLine ∧ k () { s with sl := pt s.sl i (some (.ownd (putD kvs key v))) }
    | none => False)
  | _ => False
/-- the slot holds a list or a dict of one's own -/
def qHad (i : Nat) : M Unit := fun s k _ => match gt s.sl i with
  | some (.own _) => k () s
  | some (.ownd _) => k () s
  | _ => False
def fzAt (i : Nat) : M D := fun s k _ => match gt s.sl i with
  | some (.fz d) => k d s
  | _ => False
def rdIt (i : Nat) (kd : D) : M D := fun s k _ => match gt s.sl i with
  | some (.own xs) => (match kd with
    | .int j => (match atI xs j with
      | some x => k x s
      | none => False)
    | _ => False)
  | some (.ownd kvs) => (match keyOf kd with
    | some key => (match look kvs key with
      | some x => k x s
      | none => False)
    | none => False)
  | _ => False
def augI (op : Bop) : D → D → M D
  | .int i, .int j => match op with
    | .add => ret (.int (i + j))
    | .sub => ret (.int (i - j))
    | _ => fail
  | _, _ => fail
/-- a slot's own thing is changed -/
def qMut (i : Nat) (f : P → List D → Option P) (ds : List D) : M Unit := fun s k _ => match gt s.sl i with
  | some p => match f p ds with
    | some p' => k () { s with sl := pt s.sl i (some p') }
    | none => False
  | none => False
def forGo (tg : Tg) (body : QS) : List D → QS
  | [], n, s => n.nx s
  | x :: xs, n, s => bindT tg x s (fun _ s1 => body { n with nx := forGo tg body xs n, ct := forGo tg body xs n, bk := n.nx } s1) n.ex
/-- a, b = e1, e2: all are reckoned ahead of the stores -/
def parGo : List Nat → List (M R) → M Unit
  | [], [] => ret ()
  | i :: is, f :: fs => bnd f fun r => bnd (parGo is fs) fun _ => store i r
  | _, _ => fail
def mS (f : M Unit) : QS := fun n s => f s (fun _ s1 => n.nx s1) n.ex
section
variable (Γ : Env)
mutual
def exS : Sx → QS
  | .asg i e => mS (bnd (evP Γ e).r (store i))
  | .asgT t e => mS (bnd (toD (evP Γ e).r) (bindT t))
  | .par is es => mS (parGo is (rs Γ es))
  | .aug i op e => mS (bnd (fzAt i) fun x => bnd (toD (evP Γ e).r) fun y => bnd (augI op x y) fun z => store i (.fz z))
  | .app i e => mS (bnd (qHas i) fun _ => bnd (toD (evP Γ e).r) (qApp i))
  | .ext i e => mS (bnd (qHas i) fun _ => bnd (toD (evP Γ e).r) (qExt i))
  | .rem i e => mS (bnd (qHas i) fun _ => bnd (toD (evP Γ e).r) (qRem i))
  | .asgF i e => mS (bnd (toD (evP Γ e).r) fun d => store i (.fz d))
  | .mut i f es => mS (bnd (qHad i) fun _ => bnd (evs Γ es) (qMut i f))
  | .forD i xs body => fun n s => forDf i (exSs body) xs n s
  | .fld i c f e => mS (bnd (toD (evP Γ e).r) fun d => qFld i c f d)
  | .augS i k op e => mS (bnd (qHad i) fun _ => bnd (toD (evP Γ k).r) fun kd => bnd (rdIt i kd) fun d => bnd (toD (evP Γ e).r) fun y => bnd (augI op d y) fun z => qPut i kd z)
  | .parS i j l a b => mS (bnd (toD (evP Γ a).r) fun x => bnd (toD (evP Γ b).r) fun y => bnd (qHad i) fun _ => bnd (fzAt j) fun kd => bnd (qPut i kd x) fun _ => store l (.fz y))
  | .put i k v => mS (bnd (toD (evP Γ v).r) fun y => bnd (qHad i) fun _ => bnd (toD (evP Γ k).r) fun x => qPut i x y)
  | .ex e => mS (bnd (evP Γ e).r fun _ => ret ())
  | .ret e => fun n s => (evP Γ e).r s n.rt n.ex
  | .retN => fun n s => n.rt (.fz .non) s
  | .ite t a b => fun n s => (evP Γ t).t s (fun c s1 => match c with
    | true => exSs a n s1
    | false => exSs b n s1) n.ex
  | .for_ t src body => fun n s => (evP Γ src).s s (fun xs s1 => forGo t (exSs body) xs n s1) n.ex
  | .while_ t body => fun n s => ∃ W : Nat → S → Prop, (∃ m, W m s) ∧ ∀ m s, W m s → (evP Γ t).t s (fun c s1 => match c with
    | true => exSs body { n with nx := fun s2 => ∃ m', m' < m ∧ W m' s2, ct := fun s2 => ∃ m', m' < m ∧ W m' s2, bk := n.nx } s1
    | false => n.nx s1) n.ex
  | .raise c fs es => fun n s => (evs Γ es) s (fun ds s1 => n.ex (c, fs.zip ds) s1) n.ex
  | .pass => fun n s => n.nx s
  | .brk => fun n s => n.bk s
  | .cont => fun n s => n.ct s
  | .never => fun _ _ => False
def exSs : List Sx → QS
  | [] => fun n s => n.nx s
  | x :: xs => fun n s => exS x { n with nx := exSs xs n } s
end
end
end PP
set_option Elab.async false
set_option linter.all false
set_option maxRecDepth 100000
set_option maxHeartbeats 2000000
namespace PP
open PySem L2
structure SA where
  s : Addr
  l : Addr
  tb : List (Addr × Str) := []
/-- what tables of code objects are made of -/
def TbO (o : HO) : Prop := (∃ ps, o = .tbl ps) ∨ ∃ P, o = .ext P
theorem tabs_keep {T : List (Addr × Str)} {H H' : Hp} (h : LamX.Tabs T H) (k : ∀ b o, H b = some o → TbO o → H' b = some o) : LamX.Tabs T H' := fun p hp => by
  obtain ⟨ps, h1, h2, h3⟩ := h p hp
  refine ⟨ps, k _ _ h1 (.inl ⟨_, rfl⟩), h2, fun pos cv hc => ?_⟩
  obtain ⟨c, e1, e2⟩ := h3 pos cv hc
  exact ⟨c, e1, k _ _ e2 (.inr ⟨_, rfl⟩)⟩
theorem tbk_new {H : Hp} {p : Addr} {o : HO} (h : H p = none) : ∀ b u, H b = some u → TbO u → upd H p o b = some u := fun b u e _ => by rw [upd_ne (ne_of_none e h)]; exact e
theorem tbk_upd {H : Hp} {p : Addr} {o u0 : HO} (h : H p = some u0) (n : ¬ TbO u0) : ∀ b u, H b = some u → TbO u → upd H p o b = some u := fun b u e z => by
  rw [upd_ne (fun q => n (by rw [q, h] at e; cases e; exact z))]; exact e
theorem nt_lst {xs : List V} : ¬ TbO (.lst xs) := fun h => by
  rcases h with ⟨_, q⟩ | ⟨_, q⟩ <;> cases q
theorem nt_dK {xs : List (Key × V)} : ¬ TbO (.dK xs) := fun h => by
  rcases h with ⟨_, q⟩ | ⟨_, q⟩ <;> cases q
theorem nt_dT {xs : List (List Key × V)} : ¬ TbO (.dT xs) := fun h => by
  rcases h with ⟨_, q⟩ | ⟨_, q⟩ <;> cases q
theorem nt_ins {C dx : Addr} {fs : List (Str × V)} : ¬ TbO (.ins C dx fs) := fun h => by
  rcases h with ⟨_, q⟩ | ⟨_, q⟩ <;> cases q
/-- there, and no tuple -/
def NT (o : Option HO) : Prop := o ≠ none ∧ ∀ vs, o ≠ some (.tup vs)
theorem NT.of {o : Option HO} {u : HO} (h : o = some u) (n : ∀ vs, u ≠ .tup vs) : NT o := ⟨by rw [h]; exact nofun, fun vs e => by rw [h] at e; exact n vs (Option.some.inj e)⟩
theorem NT.le {o o' : Option HO} {u u' : HO} (h : NT o) (e : o = some u) (e' : o' = some u') (l : Le u u') : NT o' := by
  refine NT.of e' fun vs q => ?_
  rcases l with rfl | ⟨_, _, _, rfl⟩ | ⟨_, _, _, rfl⟩
  · exact h.2 vs (by rw [e, q])
  · cases q
  · cases q
def StrOk (T : SA) (H : Hp) (t : Stm) : Prop := T.s ≠ T.l ∧ H T.s = some (.lst [.ref T.l, .int t.x, .int (t.c : Int), .int t.y]) ∧ H T.l = some (.lst (t.ns.map V.int)) ∧ t.ns.length ≤ 63 ∧
  (∀ n ∈ t.ns, Builtin.Int.intBits n ≤ 1048576) ∧ 0 ≤ t.x ∧ Builtin.Int.intBits t.x ≤ 1048576 ∧ 0 ≤ t.y ∧ t.y < 2147483647 ∧ LamX.Tabs T.tb H
def SA.A (T : SA) : AS := fun a => a = T.s ∨ a = T.l ∨ ∃ q, (a, q) ∈ T.tb
theorem StrOk.is {T : SA} {H : Hp} {c : Stm} (h : StrOk T H c) : H T.s ≠ none := by
  obtain ⟨_, e, _⟩ := h
  rw [e]; exact nofun
theorem StrOk.il {T : SA} {H : Hp} {c : Stm} (h : StrOk T H c) : H T.l ≠ none := by
  obtain ⟨_, _, e, _⟩ := h
  rw [e]; exact nofun
theorem StrOk.tabs {T : SA} {H : Hp} {c : Stm} (h : StrOk T H c) : LamX.Tabs T.tb H := h.2.2.2.2.2.2.2.2.2
theorem StrOk.it {T : SA} {H : Hp} {c : Stm} (h : StrOk T H c) {a : Addr} (ha : T.A a) : NT (H a) := by
  rcases ha with rfl | rfl | ⟨q, hq⟩
  · exact .of h.2.1 nofun
  · exact .of h.2.2.1 nofun
  · obtain ⟨ps, e, _⟩ := h.tabs _ hq
    exact .of e nofun
theorem StrOk.i {T : SA} {H : Hp} {c : Stm} (h : StrOk T H c) {a : Addr} (ha : T.A a) : H a ≠ none := (h.it ha).1
theorem StrOk.keep {T : SA} {H H' : Hp} {c : Stm} (h : StrOk T H c) (a : H' T.s = H T.s) (b : H' T.l = H T.l) (k : ∀ b o, H b = some o → TbO o → H' b = some o) : StrOk T H' c := by
  obtain ⟨h1, h2, h3, h4, h5, h6, h7, h8, h9, h10⟩ := h
  exact ⟨h1, by rw [a]; exact h2, by rw [b]; exact h3, h4, h5, h6, h7, h8, h9, tabs_keep h10 k⟩
theorem StrOk.new {T : SA} {H : Hp} {c : Stm} {p : Addr} {o : HO} (h : StrOk T H c) (hp : H p = none) : StrOk T (upd H p o) c :=
  h.keep (upd_ne fun e => h.is (by rw [e]; exact hp)) (upd_ne fun e => h.il (by rw [e]; exact hp)) (tbk_new hp)
/-- the frame of a def: the stream, the heap at the entry, what it may change, what it keeps away from, what is wanted of errors -/
structure Fm where
  G : Gc
  T : SA
  H0 : Hp
  md : AS
  Z0 : AS
abbrev Ow := Nat → Option Addr
def add (Z : AS) (p : Addr) : AS := fun a => Z a ∨ a = p
def Av' (Z : AS) (ow : Ow) : AS := fun a => Z a ∨ ∃ i, ow i = some a
def SlOk (F : Fm) (A : AS) (o : Option Addr) (H : Hp) (v : V) : P → Prop
  | .fz d => Fz F.G A H v d ∧ o = none
  | .own xs => ∃ a vs, v = .ref a ∧ o = some a ∧ ¬ F.md a ∧ F.H0 a = none ∧ H a = some (.lst vs) ∧ FzL F.G A H vs xs
  | .io xs => ∃ a vs, v = .ref a ∧ o = some a ∧ F.md a ∧ H a = some (.lst vs) ∧ FzL F.G A H vs xs
  | .ownd ds => ∃ a kvs, v = .ref a ∧ o = some a ∧ ¬ F.md a ∧ F.H0 a = none ∧ H a = some (.dK kvs) ∧ kvs.map (·.1) = ds.map (·.1) ∧ FzL F.G A H (kvs.map (·.2)) (ds.map (·.2))
  | .stm => v = .ref F.T.s ∧ o = none
  | .df x => v = .ref (F.G.ga x) ∧ o = none
  | .fn fa ws ds => v = .ref fa ∧ o = none ∧ FzL F.G A H ws ds
  | .ini c ds => ∃ a dx fs, v = .ref a ∧ o = some a ∧ F.md a ∧ H a = some (.ins (F.G.ga c) dx fs) ∧ fs.map (·.1) = ds.map (·.1) ∧ FzL F.G A H (fs.map (·.2)) (ds.map (·.2))
structure Rep (F : Fm) (Z : AS) (ow : Ow) (σ : St) (H : Hp) (s : S) : Prop where
  keep : Keep F.md F.Z0 F.H0 H
  strm : StrOk F.T H s.c
  mds : ∀ a, F.T.A a → F.md a
  zs : ∀ a, F.T.A a → Z a
  z0 : ∀ a, F.Z0 a → Z a ∨ F.md a
  zin : ∀ a, Z a → NT (H a)
  mdz : ∀ a, F.md a → Av' Z ow a
  oz : ∀ i p, ow i = some p → ¬ Z p
  od : ∀ i j p, ow i = some p → ow j = some p → i = j
  oin : ∀ i p, ow i = some p → ∃ q, gt s.sl i = some q ∧ ∀ d, q ≠ .fz d
  len : s.sl.length = σ.length
  sl : ∀ i p, gt s.sl i = some p → ∃ v, σ[i]? = some (some v) ∧ SlOk F (Av' Z ow) (ow i) H v p
/-- what a part of the code changes: what it may, its own lists; its own lists behind it were its own ahead, or are new -/
structure Eff (F : Fm) (Z : AS) (ow : Ow) (H : Hp) (ow' : Ow) (H' : Hp) : Prop where
  k : Keep (fun a => F.md a ∨ ∃ i, ow i = some a) Z H H'
  o : ∀ i p, ow' i = some p → (∃ j, ow j = some p) ∨ H p = none
  dm : ∀ p, H p ≠ none → H' p ≠ none
section
variable {F : Fm} {Z : AS} {ow ow1 ow2 : Ow} {σ : St} {H H1 H2 : Hp} {s : S}
theorem Eff.refl (F : Fm) (Z : AS) (ow : Ow) (H : Hp) : Eff F Z ow H ow H := ⟨Keep.refl _ _ _, fun i _ h => .inl ⟨i, h⟩, fun _ h => h⟩
theorem Eff.trans (a : Eff F Z ow H ow1 H1) (b : Eff F Z ow1 H1 ow2 H2) : Eff F Z ow H ow2 H2 := by
  refine ⟨fun x o e n => ?_, fun i p h => ?_, fun p h => b.dm p (a.dm p h)⟩
  · obtain ⟨o1, e1, l1, z1⟩ := a.k x o e n
    obtain ⟨o2, e2, l2, z2⟩ := b.k x o1 e1 fun z => n (z.imp id fun ⟨i, q⟩ => (a.o i x q).elim id fun q => by rw [e] at q; cases q)
    exact ⟨o2, e2, l1.trans l2, fun z => (z2 z).trans (z1 z)⟩
  · rcases b.o i p h with ⟨j, q⟩ | q
    · exact a.o j p q
    · right
      cases e : H p with
      | none => rfl
      | some o => exact absurd q (a.dm p (by rw [e]; exact nofun))
theorem Eff.mono {Y : AS} (a : Eff F Z ow H ow1 H1) (y : ∀ a, Y a → Z a) : Eff F Y ow H ow1 H1 := ⟨a.k.mono (fun _ h => h) y, a.o, a.dm⟩
theorem dm_upd {p : Addr} {o : HO} (q : Addr) (h : H q ≠ none) : upd H p o q ≠ none := by
  by_cases e : q = p
  · rw [e, upd_same]; exact nofun
  · rw [upd_ne e]; exact h
theorem Eff.new {p : Addr} {o : HO} (h : H p = none) : Eff F Z ow H ow (upd H p o) := ⟨Keep.new h, fun i _ h => .inl ⟨i, h⟩, fun q => dm_upd q⟩
/-- data that an earlier part has given stay -/
theorem Rep.fz (R : Rep F Z ow σ H s) (e : Eff F Z ow H ow1 H1) {v : V} {d : D} (h : Fz F.G (Av' Z ow) H v d) : Fz F.G (Av' Z ow1) H1 v d :=
  h.tr (e.k.mono (fun a z => z.elim (R.mdz a) fun q => .inr q) fun _ z => z) fun a z => z.elim (fun z => .inl (.inl z)) fun ⟨i, q⟩ => (e.o i a q).imp .inr id
theorem Rep.fzl (R : Rep F Z ow σ H s) (e : Eff F Z ow H ow1 H1) {v : List V} {d : List D} (h : FzL F.G (Av' Z ow) H v d) : FzL F.G (Av' Z ow1) H1 v d :=
  h.tr (e.k.mono (fun a z => z.elim (R.mdz a) fun q => .inr q) fun _ z => z) fun a z => z.elim (fun z => .inl (.inl z)) fun ⟨i, q⟩ => (e.o i a q).imp .inr id
theorem Rep.ojn (R : Rep F Z ow σ H s) {i : Nat} {p : Addr} (h : ow i = some p) : H p ≠ none := by
  obtain ⟨q, hq, hn⟩ := R.oin i p h
  obtain ⟨v, _, ok⟩ := R.sl i q hq
  cases q with
  | fz d => exact absurd rfl (hn d)
  | own xs =>
    obtain ⟨a, vs, _, e, _, _, e2, _⟩ := ok
    rw [h] at e; cases e; rw [e2]; exact nofun
  | io xs =>
    obtain ⟨a, vs, _, e, _, e2, _⟩ := ok
    rw [h] at e; cases e; rw [e2]; exact nofun
  | ownd kvs =>
    obtain ⟨a, vs, _, e, _, _, e2, _⟩ := ok
    rw [h] at e; cases e; rw [e2]; exact nofun
  | stm =>
    obtain ⟨_, e⟩ := ok
    rw [h] at e; cases e
  | fn _ _ _ =>
    obtain ⟨_, e, _⟩ := ok
    rw [h] at e; cases e
  | df _ =>
    obtain ⟨_, e⟩ := ok
    rw [h] at e; cases e
  | ini _ _ =>
    obtain ⟨a, dx, vs, _, e, _, e2, _⟩ := ok
    rw [h] at e; cases e; rw [e2]; exact nofun
theorem Rep.onT (R : Rep F Z ow σ H s) {i : Nat} {p : Addr} (h : ow i = some p) : NT (H p) := by
  obtain ⟨q, hq, hn⟩ := R.oin i p h
  obtain ⟨v, _, ok⟩ := R.sl i q hq
  cases q with
  | fz d => exact absurd rfl (hn d)
  | own xs =>
    obtain ⟨a, vs, _, e, _, _, e2, _⟩ := ok
    rw [h] at e; cases e; exact .of e2 nofun
  | io xs =>
    obtain ⟨a, vs, _, e, _, e2, _⟩ := ok
    rw [h] at e; cases e; exact .of e2 nofun
  | ownd kvs =>
    obtain ⟨a, vs, _, e, _, _, e2, _⟩ := ok
    rw [h] at e; cases e; exact .of e2 nofun
  | stm =>
    obtain ⟨_, e⟩ := ok
    rw [h] at e; cases e
  | fn _ _ _ =>
    obtain ⟨_, e, _⟩ := ok
    rw [h] at e; cases e
  | df _ =>
    obtain ⟨_, e⟩ := ok
    rw [h] at e; cases e
  | ini _ _ =>
    obtain ⟨a, dx, vs, _, e, _, e2, _⟩ := ok
    rw [h] at e; cases e; exact .of e2 nofun
theorem Rep.onTb (R : Rep F Z ow σ H s) {i : Nat} {p : Addr} (h : ow i = some p) : ∃ u, H p = some u ∧ ¬ TbO u := by
  obtain ⟨q, hq, hn⟩ := R.oin i p h
  obtain ⟨v, _, ok⟩ := R.sl i q hq
  cases q with
  | fz d => exact absurd rfl (hn d)
  | own xs =>
    obtain ⟨a, vs, _, e, _, _, e2, _⟩ := ok
    rw [h] at e; cases e; exact ⟨_, e2, nt_lst⟩
  | io xs =>
    obtain ⟨a, vs, _, e, _, e2, _⟩ := ok
    rw [h] at e; cases e; exact ⟨_, e2, nt_lst⟩
  | ownd kvs =>
    obtain ⟨a, vs, _, e, _, _, e2, _⟩ := ok
    rw [h] at e; cases e; exact ⟨_, e2, nt_dK⟩
  | stm =>
    obtain ⟨_, e⟩ := ok
    rw [h] at e; cases e
  | fn _ _ _ =>
    obtain ⟨_, e, _⟩ := ok
    rw [h] at e; cases e
  | df _ =>
    obtain ⟨_, e⟩ := ok
    rw [h] at e; cases e
  | ini _ _ =>
    obtain ⟨a, dx, vs, _, e, _, e2, _⟩ := ok
    rw [h] at e; cases e; exact ⟨_, e2, nt_ins⟩
theorem Rep.avT (R : Rep F Z ow σ H s) {a : Addr} (h : Av' Z ow a) : NT (H a) := h.elim (R.zin a) fun ⟨_, q⟩ => R.onT q
theorem Rep.avin (R : Rep F Z ow σ H s) {a : Addr} (h : Av' Z ow a) : H a ≠ none := (R.avT h).1
theorem Rep.new0 (R : Rep F Z ow σ H s) {p : Addr} (h : H p = none) : ¬ F.md p ∧ F.H0 p = none ∧ ¬ Av' Z ow p := by
  have n : ¬ Av' Z ow p := fun z => R.avin z h
  have m : ¬ F.md p := fun z => n (R.mdz p z)
  exact ⟨m, R.keep.none h m, n⟩
theorem SlOk.tr {A B Y : AS} {o : Option Addr} {v : V} {p : P} (k : Keep A Y H H1) (s : ∀ a, B a → A a ∨ H a = none) (ho : ∀ a, o = some a → H1 a = H a) (h : SlOk F A o H v p) : SlOk F B o H1 v p := by
  cases p with
  | fz d => exact ⟨h.1.tr k s, h.2⟩
  | own xs =>
    obtain ⟨a, vs, e1, e2, e3, e4, e5, e6⟩ := h
    exact ⟨a, vs, e1, e2, e3, e4, by rw [ho a e2]; exact e5, e6.tr k s⟩
  | io xs =>
    obtain ⟨a, vs, e1, e2, e3, e5, e6⟩ := h
    exact ⟨a, vs, e1, e2, e3, by rw [ho a e2]; exact e5, e6.tr k s⟩
  | ownd ds =>
    obtain ⟨a, vs, e1, e2, e3, e4, e5, e6, e7⟩ := h
    exact ⟨a, vs, e1, e2, e3, e4, by rw [ho a e2]; exact e5, e6, e7.tr k s⟩
  | stm => exact h
  | fn fa ws ds => exact ⟨h.1, h.2.1, h.2.2.tr k s⟩
  | df x => exact h
  | ini c ds =>
    obtain ⟨a, dx, vs, e1, e2, e3, e5, e6, e7⟩ := h
    exact ⟨a, dx, vs, e1, e2, e3, by rw [ho a e2]; exact e5, e6, e7.tr k s⟩
/-- a new object -/
theorem Rep.alloc (R : Rep F Z ow σ H s) {p : Addr} {o : HO} (h : H p = none) (ho : ∀ vs, o ≠ .tup vs := by exact nofun) : Rep F (add Z p) ow σ (upd H p o) s := by
  obtain ⟨nm, n0, nz⟩ := R.new0 h
  have ne : ∀ a, H a ≠ none → a ≠ p := fun a q e => q (by rw [e]; exact h)
  refine ⟨R.keep.upd (.inr n0), R.strm.new h, R.mds, fun a z => .inl (R.zs a z), fun a z => (R.z0 a z).imp .inl id, fun a z => ?_, fun a z => (R.mdz a z).imp .inl id, fun i q e z => ?_, R.od, R.oin, R.len, fun i q e => ?_⟩
  · rcases z with z | rfl
    · rw [upd_ne (ne a (R.zin a z).1)]; exact R.zin a z
    · exact .of upd_same ho
  · rcases z with z | rfl
    · exact R.oz i q e z
    · exact nz (.inr ⟨i, e⟩)
  · obtain ⟨v, hv, ok⟩ := R.sl i q e
    refine ⟨v, hv, ok.tr (Keep.new (Z := Z) h) (fun a z => ?_) fun a e => upd_ne (ne a (R.ojn e))⟩
    rcases z with (z | rfl) | z
    · exact .inl (.inl z)
    · exact .inr h
    · exact .inl (.inr z)
/-- .. of any kind -/
theorem Rep.alloc0 (R : Rep F Z ow σ H s) {p : Addr} {o : HO} (h : H p = none) : Rep F Z ow σ (upd H p o) s := by
  obtain ⟨nm, n0, nz⟩ := R.new0 h
  have ne : ∀ a, H a ≠ none → a ≠ p := fun a q e => q (by rw [e]; exact h)
  refine ⟨R.keep.upd (.inr n0), R.strm.new h, R.mds, R.zs, R.z0, fun a z => ?_, R.mdz, R.oz, R.od, R.oin, R.len, fun i q e => ?_⟩
  · rw [upd_ne (ne a (R.zin a z).1)]; exact R.zin a z
  · obtain ⟨v, hv, ok⟩ := R.sl i q e
    exact ⟨v, hv, ok.tr (Keep.new (Z := Z) h) (fun a z => .inl z) fun a e => upd_ne (ne a (R.ojn e))⟩
/-- what was kept away from may be let go -/
theorem Rep.less {Y : AS} (R : Rep F Y ow σ H s) (y : ∀ a, Z a → Y a) (zs : ∀ a, F.T.A a → Z a) (z0 : ∀ a, F.Z0 a → Z a ∨ F.md a) (mdz : ∀ a, F.md a → Av' Z ow a) : Rep F Z ow σ H s :=
  ⟨R.keep, R.strm, R.mds, zs, z0, fun a z => R.zin a (y a z), mdz, fun i p e z => R.oz i p e (y p z), R.od, R.oin, R.len, fun i p e =>
    let ⟨v, hv, ok⟩ := R.sl i p e
    ⟨v, hv, ok.tr (Keep.refl (Av' Y ow) Z H) (fun a z => .inl (z.imp (y a) id)) fun _ _ => rfl⟩⟩
theorem Rep.unadd {p : Addr} (R : Rep F (add Z p) ow σ H s) (zs : ∀ a, F.T.A a → Z a) (z0 : ∀ a, F.Z0 a → Z a ∨ F.md a) (np : ¬ F.md p) : Rep F Z ow σ H s :=
  R.less (fun a z => .inl z) zs z0 fun a z => by
    rcases R.mdz a z with (q | rfl) | q
    · exact .inl q
    · exact absurd z np
    · exact .inr q
end
theorem gt_pt_same : ∀ {l : List (Option P)} {i : Nat} {v : Option P}, i < l.length → gt (pt l i v) i = v
  | _ :: _, 0, _, _ => rfl
  | _ :: l, i + 1, v, h => gt_pt_same (l := l) (i := i) (Nat.lt_of_succ_lt_succ h)
theorem gt_pt_ne : ∀ {l : List (Option P)} {i j : Nat} {v : Option P}, j ≠ i → gt (pt l i v) j = gt l j
  | [], _, _, _, _ => rfl
  | _ :: _, 0, 0, _, h => absurd rfl h
  | _ :: _, 0, _ + 1, _, _ => rfl
  | _ :: _, _ + 1, 0, _, _ => rfl
  | _ :: l, i + 1, j + 1, v, h => gt_pt_ne (l := l) (i := i) (j := j) fun e => h (by rw [e])
theorem gt_pt_none {l : List (Option P)} {i : Nat} {v : Option P} (h : gt (pt l i v) i = some p) : v = some p := by
  by_cases hl : i < l.length
  · rw [gt_pt_same hl] at h; exact h
  · exfalso
    induction l generalizing i with
    | nil => cases h
    | cons x l ih =>
      cases i with
      | zero => exact hl (Nat.zero_lt_succ _)
      | succ i => exact ih (i := i) h fun q => hl (Nat.succ_lt_succ q)
theorem pt_len : ∀ (l : List (Option P)) (i : Nat) (v : Option P), (pt l i v).length = l.length
  | [], _, _ => rfl
  | _ :: _, 0, _ => rfl
  | _ :: l, i + 1, v => by simp [pt, pt_len l i v]
theorem gt_lt : ∀ {l : List (Option P)} {i : Nat} {p : P}, gt l i = some p → i < l.length
  | _ :: _, 0, _, _ => Nat.zero_lt_succ _
  | _ :: l, i + 1, _, h => Nat.succ_lt_succ (gt_lt (l := l) h)
end PP
set_option Elab.async false
set_option linter.all false
set_option maxRecDepth 100000
set_option maxHeartbeats 2000000
namespace PP
open PySem L2
theorem PEimp {X : Cx} {e : Expr} {t t' : TE} (h : PE X e t) (i : ∀ σ H Q, t' σ H Q → t σ H Q) : PE X e t' := ⟨fun p s σ H Q I w => h.run p s σ H Q I (i σ H Q w)⟩
theorem PTimp {X : Cx} {e : Expr} {t t' : TT} (h : PT X e t) (i : ∀ σ H Q, t' σ H Q → t σ H Q) : PT X e t' := ⟨fun p s σ H Q I w => h.run p s σ H Q I (i σ H Q w)⟩
theorem PWimp {X : Cx} {e : Expr} {t t' : TT} (h : PW X e t) (i : ∀ σ H Q, t' σ H Q → t σ H Q) : PW X e t' := ⟨fun w p s σ H Q I wq => h.run w p s σ H Q I (i σ H Q wq)⟩
theorem PAimp {X : Cx} {e : List Expr} {t t' : TA} (h : PA X e t) (i : ∀ σ H Q, t' σ H Q → t σ H Q) : PA X e t' := ⟨fun q p s σ H Q I w => h.run q p s σ H Q I (i σ H Q w)⟩
theorem PSimp {X : Cx} {e : Stmt} {t t' : TS} (h : PS X e t) (i : ∀ D σ H, t' D σ H → t D σ H) : PS X e t' := ⟨fun p s σ H D I w => h.run p s σ H D I (i D σ H w)⟩
theorem PSsimp {X : Cx} {e : List Stmt} {t t' : TS} (h : PSs X e t) (i : ∀ D σ H, t' D σ H → t D σ H) : PSs X e t' := ⟨fun p s σ H D I w => h.run p s σ H D I (i D σ H w)⟩
/-- what a value is, made since Hs -/
def RR (F : Fm) (Z : AS) (Hs : Hp) (ow : Ow) (σ : L2.St) (H : Hp) (s : S) (v : V) : R → Prop
  | .fz d => Rep F Z ow σ H s ∧ Fz F.G (Av' Z ow) H v d
  | .nl xs => ∃ p vs, v = .ref p ∧ Hs p = none ∧ ¬ Z p ∧ ¬ F.md p ∧ F.H0 p = none ∧ Rep F (add Z p) ow σ H s ∧ H p = some (.lst vs) ∧ FzL F.G (Av' (add Z p) ow) H vs xs
  | .nd ds => ∃ p kvs, v = .ref p ∧ Hs p = none ∧ ¬ Z p ∧ ¬ F.md p ∧ F.H0 p = none ∧ Rep F (add Z p) ow σ H s ∧ H p = some (.dK kvs) ∧ kvs.map (·.1) = ds.map (·.1) ∧ FzL F.G (Av' (add Z p) ow) H (kvs.map (·.2)) (ds.map (·.2))
theorem RR.back {F : Fm} {Z : AS} {H1 Hs : Hp} {ow : Ow} {σ : L2.St} {H : Hp} {s : S} {v : V} {r : R} (d : ∀ p, Hs p ≠ none → H1 p ≠ none) (h : RR F Z H1 ow σ H s v r) : RR F Z Hs ow σ H s v r := by
  have n : ∀ {p : Addr}, H1 p = none → Hs p = none := fun {p} e => by
    cases q : Hs p with
    | none => rfl
    | some o => exact absurd e (d p (by rw [q]; exact nofun))
  cases r with
  | fz d => exact h
  | nl xs =>
    obtain ⟨p, vs, e, h1, h2⟩ := h
    exact ⟨p, vs, e, n h1, h2⟩
  | nd xs =>
    obtain ⟨p, vs, e, h1, h2⟩ := h
    exact ⟨p, vs, e, n h1, h2⟩
def VOk (F : Fm) (Z : AS) (ow : Ow) (σ : L2.St) (H : Hp) (v : V) : VR → Prop
  | .d d => Fz F.G (Av' Z ow) H v d
  | .sl i => σ[i]? = some (some v)
inductive VOks (F : Fm) (Z : AS) (ow : Ow) (σ : L2.St) (H : Hp) : List V → List VR → Prop
  | nil : VOks F Z ow σ H [] []
  | cons {v : V} {x : VR} {vs : List V} {xs : List VR} : VOk F Z ow σ H v x → VOks F Z ow σ H vs xs → VOks F Z ow σ H (v :: vs) (x :: xs)
def LR (F : Fm) (E : XC) (f : M R) : TE := fun σ H Q => ∃ Z ow s K, Rep F Z ow σ H s ∧ f s K E ∧ ∀ r s' v H' ow', K r s' → RR F Z H ow' σ H' s' v r → Eff F Z ow H ow' H' → Q v H'
def LV (F : Fm) (E : XC) (f : M VR) : TE := fun σ H Q => ∃ Z ow s K, Rep F Z ow σ H s ∧ f s K E ∧ ∀ x s' v H' ow', K x s' → Rep F Z ow' σ H' s' → VOk F Z ow' σ H' v x → Eff F Z ow H ow' H' → Q v H'
def LT (F : Fm) (E : XC) (f : M Bool) : TT := fun σ H Q => ∃ Z ow s K, Rep F Z ow σ H s ∧ f s K E ∧ ∀ b s' H' ow', K b s' → Rep F Z ow' σ H' s' → Eff F Z ow H ow' H' → Q b H'
def LVs (F : Fm) (E : XC) (f : M (List VR)) : TA := fun σ H Q => ∃ Z ow s K, Rep F Z ow σ H s ∧ f s K E ∧ ∀ xs s' vs H' ow', K xs s' → Rep F Z ow' σ H' s' → VOks F Z ow' σ H' vs xs → Eff F Z ow H ow' H' → Q vs H'
def LDs (F : Fm) (E : XC) (f : M (List D)) : TA := fun σ H Q => ∃ Z ow s K, Rep F Z ow σ H s ∧ f s K E ∧ ∀ xs s' vs H' ow', K xs s' → Rep F Z ow' σ H' s' → FzL F.G (Av' Z ow') H' vs xs → Eff F Z ow H ow' H' → Q vs H'
section
variable {F : Fm} {E : XC} {Z : AS} {ow ow' ow1 ow2 : Ow} {σ : L2.St} {H H' H1 H2 : Hp} {s s' : S} {v : V} {r : R}
theorem RR.fz' {Hs : Hp} (R0 : Rep F Z ow σ H s) (h : RR F Z Hs ow' σ H' s' v r) : Rep F Z ow' σ H' s' ∧ Fz F.G (Av' Z ow') H' v r.d := by
  cases r with
  | fz d => exact h
  | nl xs =>
    obtain ⟨p, vs, rfl, _, nz, nm, _, R, e, l⟩ := h
    refine ⟨R.unadd R0.zs R0.z0 nm, .lst (fun z => ?_) e (l.mono fun a z => .inl (z.imp .inl id))⟩
    rcases z with z | ⟨i, q⟩
    · exact nz z
    · exact R.oz i p q (.inr rfl)
  | nd ds =>
    obtain ⟨p, vs, rfl, _, nz, nm, _, R, e, ek, l⟩ := h
    refine ⟨R.unadd R0.zs R0.z0 nm, .dct (fun z => ?_) (.inl e) ek (l.mono fun a z => .inl (z.imp .inl id))⟩
    rcases z with z | ⟨i, q⟩
    · exact nz z
    · exact R.oz i p q (.inr rfl)
theorem VOk.tr (R : Rep F Z ow σ H s) (e : Eff F Z ow H ow1 H1) {x : VR} (h : VOk F Z ow σ H v x) : VOk F Z ow1 σ H1 v x := by
  cases x with
  | d d => exact R.fz e h
  | sl i => exact h
theorem VOks.tr (R : Rep F Z ow σ H s) (e : Eff F Z ow H ow1 H1) : ∀ {vs : List V} {xs : List VR}, VOks F Z ow σ H vs xs → VOks F Z ow1 σ H1 vs xs
  | _, _, .nil => .nil
  | _, _, .cons a b => .cons (a.tr R e) (VOks.tr R e b)
/-- what can be read of a value -/
def View (F : Fm) (A : AS) (H : Hp) (v : V) : D → Prop
  | .lst xs => ∃ a vs, v = .ref a ∧ H a = some (.lst vs) ∧ FzL F.G A H vs xs
  | .dct ds => ∃ a kvs, v = .ref a ∧ Rd H a (.dK kvs) ∧ kvs.map (·.1) = ds.map (·.1) ∧ FzL F.G A H (kvs.map (·.2)) (ds.map (·.2))
  | d => Fz F.G A H v d
theorem Fz.view {A : AS} {d : D} (h : Fz F.G A H v d) : View F A H v d := by
  cases h with
  | non => exact .non
  | bl b => exact .bl b
  | int b => exact .int b
  | str b => exact .str b
  | lst a b c => exact ⟨_, _, rfl, b, c⟩
  | tup a b c => exact .tup a b c
  | dct a b c d => exact ⟨_, _, rfl, b, c, d⟩
  | dctT a b c d => exact .dctT a b c d
  | obj a b c d => exact .obj a b c d
  | kt a b => exact .kt a b
theorem res_ok (R : Rep F Z ow σ H s) {x : VR} (h : VOk F Z ow σ H v x) {K : D → S → Prop} (w : res x s K E) : ∃ d, K d s ∧ View F (Av' Z ow) H v d := by
  cases x with
  | d d => exact ⟨d, w, Fz.view h⟩
  | sl i =>
    have w' : (match gt s.sl i with
      | some (.fz d) => K d s
      | some (.own xs) => K (.lst xs) s
      | some (.io xs) => K (.lst xs) s
      | some (.ownd kvs) => K (.dct kvs) s
      | _ => False) := w
    have hv : σ[i]? = some (some v) := h
    cases hg : gt s.sl i with
    | none => rw [hg] at w'; exact w'.elim
    | some q =>
      rw [hg] at w'
      obtain ⟨v', hv', ok⟩ := R.sl i q hg
      rw [hv] at hv'; cases hv'
      cases q with
      | fz d => exact ⟨d, w', Fz.view ok.1⟩
      | own xs =>
        obtain ⟨a, vs, e1, _, _, _, e2, l⟩ := ok
        exact ⟨_, w', a, vs, e1, e2, l⟩
      | io xs =>
        obtain ⟨a, vs, e1, _, _, e2, l⟩ := ok
        exact ⟨_, w', a, vs, e1, e2, l⟩
      | ownd ds =>
        obtain ⟨a, vs, e1, _, _, _, e2, e3, l⟩ := ok
        exact ⟨_, w', a, vs, e1, .inl e2, e3, l⟩
      | stm => exact w'.elim
      | fn _ _ _ => exact w'.elim
      | ini _ _ => exact w'.elim
      | df _ => exact w'.elim
inductive Views (F : Fm) (A : AS) (H : Hp) : List V → List D → Prop
  | nil : Views F A H [] []
  | cons {v : V} {d : D} {vs : List V} {ds : List D} : View F A H v d → Views F A H vs ds → Views F A H (v :: vs) (d :: ds)
theorem ress_ok (R : Rep F Z ow σ H s) : ∀ {vs : List V} {xs : List VR} {K : List D → S → Prop}, VOks F Z ow σ H vs xs → ress xs s K E → ∃ ds, K ds s ∧ Views F (Av' Z ow) H vs ds
  | _, _, K, .nil, w => ⟨[], w, .nil⟩
  | _, _, K, .cons h t, w => by
    obtain ⟨d, w1, hd⟩ := res_ok R h w
    obtain ⟨ds, w2, hds⟩ := ress_ok R t w1
    exact ⟨d :: ds, w2, .cons hd hds⟩
def dropO (ow : Ow) (i : Nat) : Ow := fun j => if j = i then none else ow j
def setO (ow : Ow) (i : Nat) (p : Addr) : Ow := fun j => if j = i then some p else ow j
theorem dropO_sub {i j : Nat} {p : Addr} (h : dropO ow i j = some p) : j ≠ i ∧ ow j = some p := by
  unfold dropO at h
  split at h
  · cases h
  · exact ⟨by assumption, h⟩
theorem setO_sub {i j : Nat} {p q : Addr} (h : setO ow i p j = some q) : (j = i ∧ q = p) ∨ (j ≠ i ∧ ow j = some q) := by
  unfold setO at h
  split at h
  · exact .inl ⟨by assumption, (Option.some.inj h).symm⟩
  · exact .inr ⟨by assumption, h⟩
theorem Rep.noMd (R : Rep F Z ow σ H s) {i : Nat} {p : Addr} (h : ow i = some p) (n : isIo (gt s.sl i) = false) : ¬ F.md p := by
  obtain ⟨q, hq, _⟩ := R.oin i p h
  obtain ⟨v, _, ok⟩ := R.sl i q hq
  rw [hq] at n
  cases q with
  | fz d => rw [h] at ok; cases ok.2
  | own xs =>
    obtain ⟨a, vs, _, e, m, _⟩ := ok
    rw [h] at e; cases e; exact m
  | io xs => cases n
  | ownd xs =>
    obtain ⟨a, vs, _, e, m, _⟩ := ok
    rw [h] at e; cases e; exact m
  | stm => rw [h] at ok; cases ok.2
  | fn _ _ _ => rw [h] at ok; cases ok.2.1
  | ini _ _ => cases n
  | df _ => rw [h] at ok; cases ok.2
/-- a slot's value that stays put in its place -/
theorem Rep.store {i : Nat} {d : D} {σ' : L2.St} (R : Rep F Z ow σ H s) (n : isIo (gt s.sl i) = false) (hl : σ'.length = σ.length) (hi : σ'[i]? = some (some v)) (ho : ∀ j, j ≠ i → σ'[j]? = σ[j]?)
    (h : Fz F.G (Av' Z (dropO ow i)) H v d) : Rep F Z (dropO ow i) σ' H { s with sl := pt s.sl i (some (.fz d)) } := by
  have sub : ∀ a, Av' Z (dropO ow i) a → Av' Z ow a := fun a z => z.imp id fun ⟨j, q⟩ => ⟨j, (dropO_sub q).2⟩
  refine ⟨R.keep, R.strm, R.mds, R.zs, R.z0, R.zin, fun a z => ?_, fun j p e => R.oz j p (dropO_sub e).2, fun j k p e1 e2 => R.od j k p (dropO_sub e1).2 (dropO_sub e2).2, fun j p e => ?_, ?_, fun j q e => ?_⟩
  · rcases R.mdz a z with q | ⟨j, q⟩
    · exact .inl q
    · by_cases hj : j = i
      · subst hj; exact absurd z (R.noMd q n)
      · exact .inr ⟨j, by unfold dropO; rw [if_neg hj]; exact q⟩
  · obtain ⟨q, hq, hn⟩ := R.oin j p (dropO_sub e).2
    exact ⟨q, by show gt (pt s.sl i _) j = _; rw [gt_pt_ne (dropO_sub e).1]; exact hq, hn⟩
  · show (pt s.sl i _).length = _
    rw [pt_len, R.len, hl]
  · have e' : gt (pt s.sl i (some (.fz d))) j = some q := e
    by_cases hj : j = i
    · subst hj
      cases gt_pt_none e'
      exact ⟨v, hi, h, by unfold dropO; rw [if_pos rfl]⟩
    · rw [gt_pt_ne hj] at e'
      obtain ⟨w, hw, ok⟩ := R.sl j q e'
      refine ⟨w, by rw [ho j hj]; exact hw, ?_⟩
      have eo : dropO ow i j = ow j := by unfold dropO; rw [if_neg hj]
      rw [eo]
      exact ok.tr (Keep.refl (Av' Z ow) Z H) (fun a z => .inl (sub a z)) fun _ _ => rfl
/-- a new list in a slot: its own -/
theorem Rep.storeN {i : Nat} {q : P} {p : Addr} {σ' : L2.St} (R : Rep F (add Z p) ow σ H s) (R0 : Rep F Z ow1 σ H1 s') (np : ¬ Z p) (n : isIo (gt s.sl i) = false) (hl : σ'.length = σ.length) (hi : σ'[i]? = some (some (.ref p))) (ho : ∀ j, j ≠ i → σ'[j]? = σ[j]?)
    (nm : ¬ F.md p) (hx : ∀ d, q ≠ .fz d) (h : ∀ A, (∀ a, A a → Av' (add Z p) ow a) → SlOk F A (some p) H (.ref p) q) (hlt : i < s.sl.length) : Rep F Z (setO ow i p) σ' H { s with sl := pt s.sl i (some q) } := by
  have sub : ∀ a, Av' Z (setO ow i p) a → Av' (add Z p) ow a := fun a z => by
    rcases z with z | ⟨j, q⟩
    · exact .inl (.inl z)
    · rcases setO_sub q with ⟨_, rfl⟩ | ⟨_, q⟩
      · exact .inl (.inr rfl)
      · exact .inr ⟨j, q⟩
  refine ⟨R.keep, R.strm, R.mds, R0.zs, R0.z0, fun a z => R.zin a (.inl z), fun a z => ?_, fun j b e => ?_, fun j k b e1 e2 => ?_, fun j b e => ?_, ?_, fun j q' e => ?_⟩
  · rcases R.mdz a z with (q | rfl) | ⟨j, q⟩
    · exact .inl q
    · exact absurd z nm
    · by_cases hj : j = i
      · subst hj; exact absurd z (R.noMd q n)
      · exact .inr ⟨j, by unfold setO; rw [if_neg hj]; exact q⟩
  · rcases setO_sub e with ⟨_, rfl⟩ | ⟨_, q⟩
    · exact np
    · exact fun z => R.oz j b q (.inl z)
  · rcases setO_sub e1 with ⟨h1, r1⟩ | ⟨h1, q1⟩
    · rcases setO_sub e2 with ⟨h2, _⟩ | ⟨h2, q2⟩
      · rw [h1, h2]
      · rw [r1] at q2; exact absurd (.inr rfl) (R.oz k p q2)
    · rcases setO_sub e2 with ⟨h2, r2⟩ | ⟨h2, q2⟩
      · rw [r2] at q1; exact absurd (.inr rfl) (R.oz j p q1)
      · exact R.od j k b q1 q2
  · by_cases hj : j = i
    · subst hj
      exact ⟨q, gt_pt_same hlt, hx⟩
    · rcases setO_sub e with ⟨h1, _⟩ | ⟨_, e⟩
      · exact absurd h1 hj
      · obtain ⟨q', hq, hn⟩ := R.oin j b e
        exact ⟨q', by show gt (pt s.sl i _) j = _; rw [gt_pt_ne hj]; exact hq, hn⟩
  · show (pt s.sl i _).length = _
    rw [pt_len, R.len, hl]
  · have e' : gt (pt s.sl i (some q)) j = some q' := e
    by_cases hj : j = i
    · subst hj
      cases gt_pt_none e'
      exact ⟨_, hi, by rw [show setO ow j p j = some p by unfold setO; rw [if_pos rfl]]; exact h _ sub⟩
    · rw [gt_pt_ne hj] at e'
      obtain ⟨w, hw, ok⟩ := R.sl j q' e'
      refine ⟨w, by rw [ho j hj]; exact hw, ?_⟩
      have eo : setO ow i p j = ow j := by unfold setO; rw [if_neg hj]
      rw [eo]
      exact ok.tr (Keep.refl (Av' (add Z p) ow) Z H) (fun a z => .inl (sub a z)) fun _ _ => rfl
theorem set_len (σ : L2.St) (i : Nat) (v : Option V) : (σ.set i v).length = σ.length := by simp
theorem set_at {σ : L2.St} {i : Nat} {v : V} (h : i < σ.length) : (σ.set i (some v))[i]? = some (some v) := by simp [h]
theorem set_out {σ : L2.St} {i : Nat} {v : Option V} (j : Nat) (h : j ≠ i) : (σ.set i v)[j]? = σ[j]? := by
  rw [List.getElem?_set_ne (fun e => h e.symm)]
/-- any value that an expression gave is put in a slot -/
theorem Rep.put {i : Nat} {Hs : Hp} (R0 : Rep F Z ow σ H s) (h : RR F Z Hs ow' σ H' s' v r) (n : isIo (gt s'.sl i) = false) (hlt : i < σ.length) :
    ∃ ow'', Rep F Z ow'' (σ.set i (some v)) H' (setS i r s') ∧ ∀ j p, ow'' j = some p → (∃ j', ow' j' = some p) ∨ Hs p = none := by
  cases r with
  | fz d => exact ⟨dropO ow' i, h.1.store n (set_len _ _ _) (set_at hlt) (fun j hj => set_out j hj) (h.2.mono fun a z => .inl (z.imp id fun ⟨j, q⟩ => ⟨j, (dropO_sub q).2⟩)), fun j p e => .inl ⟨j, (dropO_sub e).2⟩⟩
  | nl xs =>
    obtain ⟨p, vs, rfl, hs, nz, nm, h0, R, e, l⟩ := h
    exact ⟨setO ow' i p, R.storeN R0 nz n (set_len _ _ _) (set_at hlt) (fun j hj => set_out j hj) nm (by intro d; exact nofun) (fun A hA => ⟨p, vs, rfl, rfl, nm, h0, e, l.mono fun a z => .inl (hA a z)⟩) (by rw [R.len]; exact hlt), fun j q e => (setO_sub e).elim (fun z => .inr (by rw [z.2]; exact hs)) fun z => .inl ⟨j, z.2⟩⟩
  | nd ds =>
    obtain ⟨p, vs, rfl, hs, nz, nm, h0, R, e, ek, l⟩ := h
    exact ⟨setO ow' i p, R.storeN R0 nz n (set_len _ _ _) (set_at hlt) (fun j hj => set_out j hj) nm (by intro d; exact nofun) (fun A hA => ⟨p, vs, rfl, rfl, nm, h0, e, ek, l.mono fun a z => .inl (hA a z)⟩) (by rw [R.len]; exact hlt), fun j q e => (setO_sub e).elim (fun z => .inr (by rw [z.2]; exact hs)) fun z => .inl ⟨j, z.2⟩⟩
end
end PP
set_option Elab.async false
set_option linter.all false
set_option maxRecDepth 100000
set_option maxHeartbeats 2000000
namespace PP
open PySem L2
section
variable {F : Fm} {E : XC} {Z : AS} {ow ow' ow1 ow2 : Ow} {σ : L2.St} {H H' H1 H2 : Hp} {s s' : S} {v : V} {r : R} {Q : VK}
theorem lr_var {i : Nat} (h : LR F E (qVar i) σ H Q) : tVar i σ H Q := by
  obtain ⟨Z, ow, s, K, R, hf, hq⟩ := h
  have w : (match gt s.sl i with
    | some (.fz d) => K (.fz d) s
    | some (.own xs) => K (.fz (.lst xs)) { s with sl := pt s.sl i (some (.fz (.lst xs))) }
    | some (.ownd kvs) => K (.fz (.dct kvs)) { s with sl := pt s.sl i (some (.fz (.dct kvs))) }
    | _ => False) := hf
  cases hg : gt s.sl i with
  | none => rw [hg] at w; exact w.elim
  | some q =>
    rw [hg] at w
    obtain ⟨v, hv, ok⟩ := R.sl i q hg
    have out : ∀ {p : Addr}, ow i = some p → ¬ Av' Z (dropO ow i) p := fun {p} e z => by
      rcases z with z | ⟨j, q⟩
      · exact R.oz i p e z
      · exact (dropO_sub q).1 (R.od j i p (dropO_sub q).2 e)
    have sub : ∀ a, Av' Z (dropO ow i) a → Av' Z ow a ∨ H a = none := fun a z => .inl (z.imp id fun ⟨j, q⟩ => ⟨j, (dropO_sub q).2⟩)
    have eff : Eff F Z ow H (dropO ow i) H := ⟨Keep.refl _ _ _, fun j p e => .inl ⟨j, (dropO_sub e).2⟩, fun _ h => h⟩
    cases q with
    | fz d => exact ⟨v, hv, hq (.fz d) s v H ow w ⟨R, ok.1⟩ (Eff.refl _ _ _ _)⟩
    | own xs =>
      obtain ⟨a, vs, rfl, e1, nm, h0, e2, l⟩ := ok
      have z : Fz F.G (Av' Z (dropO ow i)) H (.ref a) (.lst xs) := .lst (out e1) e2 (l.mono sub)
      exact ⟨_, hv, hq _ _ _ H _ w ⟨R.store (by rw [hg]; rfl) rfl hv (fun _ _ => rfl) z, z⟩ eff⟩
    | ownd ds =>
      obtain ⟨a, kvs, rfl, e1, nm, h0, e2, ek, l⟩ := ok
      have z : Fz F.G (Av' Z (dropO ow i)) H (.ref a) (.dct ds) := .dct (out e1) (.inl e2) ek (l.mono sub)
      exact ⟨_, hv, hq _ _ _ H _ w ⟨R.store (by rw [hg]; rfl) rfl hv (fun _ _ => rfl) z, z⟩ eff⟩
    | io xs => exact w.elim
    | stm => exact w.elim
    | fn _ _ _ => exact w.elim
    | ini _ _ => exact w.elim
    | df _ => exact w.elim
theorem lv_var {i : Nat} {f : M R} (h : LV F E (vwOf (.var i) f) σ H Q) : tVar i σ H Q := by
  obtain ⟨Z, ow, s, K, R, hf, hq⟩ := h
  have w : (match gt s.sl i with
    | some (.fz d) => K (.d d) s
    | some (.own _) => K (.sl i) s
    | some (.io _) => K (.sl i) s
    | some (.ownd _) => K (.sl i) s
    | _ => False) := hf
  cases hg : gt s.sl i with
  | none => rw [hg] at w; exact w.elim
  | some q =>
    rw [hg] at w
    obtain ⟨v, hv, ok⟩ := R.sl i q hg
    cases q with
    | fz d => exact ⟨v, hv, hq _ _ v H ow w R ok.1 (Eff.refl _ _ _ _)⟩
    | own xs => exact ⟨v, hv, hq _ _ v H ow w R hv (Eff.refl _ _ _ _)⟩
    | io xs => exact ⟨v, hv, hq _ _ v H ow w R hv (Eff.refl _ _ _ _)⟩
    | ownd xs => exact ⟨v, hv, hq _ _ v H ow w R hv (Eff.refl _ _ _ _)⟩
    | stm => exact w.elim
    | fn _ _ _ => exact w.elim
    | ini _ _ => exact w.elim
    | df _ => exact w.elim
/-- other expressions are looked at by their value -/
theorem lv_val {f : M R} (h : LV F E (bnd (toD f) fun d => ret (.d d)) σ H Q) : LR F E f σ H Q := by
  obtain ⟨Z, ow, s, K, R, hf, hq⟩ := h
  exact ⟨Z, ow, s, _, R, hf, fun r s' v H' ow' k rr e => hq (.d r.d) s' v H' ow' k (rr.fz' R).1 (rr.fz' R).2 e⟩
theorem lr_c {d : D} {v : V} (hz : ∀ A H, Fz F.G A H v d) (h : LR F E (rd d) σ H Q) : tC v σ H Q := by
  obtain ⟨Z, ow, s, K, R, hf, hq⟩ := h
  exact hq (.fz d) s v H ow hf ⟨R, hz _ _⟩ (Eff.refl _ _ _ _)
/-- an operation of two values keeps what the meaning says -/
def OpS (F : Fm) (E : XC) (op : D → D → M R) (r : R2) : Prop := ∀ (Z : AS) (ow : Ow) (σ : L2.St) (H : Hp) (s : S) (K : R → S → Prop) (x y : D) (vx vy : V) (Q : VK), Rep F Z ow σ H s → View F (Av' Z ow) H vx x → View F (Av' Z ow) H vy y → op x y s K E →
  (∀ r s' v H' ow', K r s' → RR F Z H ow' σ H' s' v r → Eff F Z ow H ow' H' → Q v H') → r vx vy H Q
theorem lr_bin {fa fb : M VR} {op : D → D → M R} {r : R2} (ho : OpS F E op r) (h : LR F E (bnd fa fun x => bnd fb fun y => bnd (res x) fun dx => bnd (res y) fun dy => op dx dy) σ H Q) : tOp r (LV F E fa) (LV F E fb) σ H Q := by
  obtain ⟨Z, ow, s, K, R, hf, hq⟩ := h
  refine ⟨Z, ow, s, _, R, hf, fun x s1 v1 H1 ow1 k1 R1 o1 e1 => ⟨Z, ow1, s1, _, R1, k1, fun y s2 v2 H2 ow2 k2 R2 o2 e2 => ?_⟩⟩
  obtain ⟨dx, w1, hx⟩ := res_ok R2 (o1.tr R1 e2) k2
  obtain ⟨dy, w2, hy⟩ := res_ok R2 o2 w1
  exact ho Z ow2 σ H2 s2 K dx dy v1 v2 Q R2 hx hy w2 fun r s' v H' ow' k rr e => hq r s' v H' ow' k (rr.back (e1.trans e2).dm) ((e1.trans e2).trans e)
/-- an operation of a list of values -/
def CallS (F : Fm) (E : XC) (op : List D → M R) (r : List V → Hp → VK → Prop) : Prop := ∀ (Z : AS) (ow : Ow) (σ : L2.St) (H : Hp) (s : S) (K : R → S → Prop) (xs : List D) (vs : List V) (Q : VK), Rep F Z ow σ H s → Views F (Av' Z ow) H vs xs → op xs s K E →
  (∀ r s' v H' ow', K r s' → RR F Z H ow' σ H' s' v r → Eff F Z ow H ow' H' → Q v H') → r vs H Q
theorem lr_call {fs : M (List VR)} {op : List D → M R} {r : List V → Hp → VK → Prop} (ho : CallS F E op r) (h : LR F E (bnd fs fun xs => bnd (ress xs) fun ds => op ds) σ H Q) : tCB r (LVs F E fs) σ H Q := by
  obtain ⟨Z, ow, s, K, R, hf, hq⟩ := h
  refine ⟨Z, ow, s, _, R, hf, fun xs s1 vs H1 ow1 k1 R1 o1 e1 => ?_⟩
  obtain ⟨ds, w1, hx⟩ := ress_ok R1 o1 k1
  exact ho Z ow1 σ H1 s1 K ds vs Q R1 hx w1 fun r s' v H' ow' k rr e => hq r s' v H' ow' k (rr.back e1.dm) (e1.trans e)
theorem lvs_nil {Q : List V → Hp → Prop} (h : LVs F E (ret []) σ H Q) : tNil σ H Q := by
  obtain ⟨Z, ow, s, K, R, hf, hq⟩ := h
  exact hq [] s [] H ow hf R .nil (Eff.refl _ _ _ _)
theorem lvs_cons {Q : List V → Hp → Prop} {f : M VR} {fs : M (List VR)} (h : LVs F E (bnd f fun d => bnd fs fun ds => ret (d :: ds)) σ H Q) : tCons (LV F E f) (LVs F E fs) σ H Q := by
  obtain ⟨Z, ow, s, K, R, hf, hq⟩ := h
  exact ⟨Z, ow, s, _, R, hf, fun x s1 v1 H1 ow1 k1 R1 o1 e1 => ⟨Z, ow1, s1, _, R1, k1, fun y s2 v2 H2 ow2 k2 R2 o2 e2 => hq (x :: y) s2 (v1 :: v2) H2 ow2 k2 R2 (.cons (o1.tr R1 e2) o2) (e1.trans e2)⟩⟩
theorem lds_nil {Q : List V → Hp → Prop} (h : LDs F E (ret []) σ H Q) : tNil σ H Q := by
  obtain ⟨Z, ow, s, K, R, hf, hq⟩ := h
  exact hq [] s [] H ow hf R .nil (Eff.refl _ _ _ _)
theorem lds_cons {Q : List V → Hp → Prop} {f : M R} {fs : M (List D)} (h : LDs F E (bnd (toD f) fun d => bnd fs fun ds => ret (d :: ds)) σ H Q) : tCons (LR F E f) (LDs F E fs) σ H Q := by
  obtain ⟨Z, ow, s, K, R, hf, hq⟩ := h
  exact ⟨Z, ow, s, _, R, hf, fun x s1 v1 H1 ow1 k1 rr e1 => ⟨Z, ow1, s1, _, (rr.fz' R).1, k1, fun y s2 v2 H2 ow2 k2 R2 o2 e2 => hq (x.d :: y) s2 (v1 :: v2) H2 ow2 k2 R2 (.cons ((rr.fz' R).1.fz e2 (rr.fz' R).2) o2) (e1.trans e2)⟩⟩
/-- tests -/
theorem lt_val {e : Ex} {f : M VR} {g : D → M Bool} {Q : Bool → Hp → Prop} {tr : V → Hp → (Bool → Hp → Prop) → Prop}
    (ho : ∀ (Z : AS) (ow : Ow) (σ : L2.St) (H : Hp) (s : S) (K : Bool → S → Prop) (x : D) (vx : V) (Q : Bool → Hp → Prop), Rep F Z ow σ H s → View F (Av' Z ow) H vx x → g x s K E → (∀ b s' H' ow', K b s' → Rep F Z ow' σ H' s' → Eff F Z ow H ow' H' → Q b H') → tr vx H Q)
    (h : LT F E (bnd f fun x => bnd (res x) g) σ H Q) : LV F E f σ H fun v H1 => tr v H1 Q := by
  obtain ⟨Z, ow, s, K, R, hf, hq⟩ := h
  refine ⟨Z, ow, s, _, R, hf, fun x s1 v1 H1 ow1 k1 R1 o1 e1 => ?_⟩
  obtain ⟨dx, w1, hx⟩ := res_ok R1 o1 k1
  exact ho Z ow1 σ H1 s1 K dx v1 Q R1 hx w1 fun b s' H' ow' k r e => hq b s' H' ow' k r (e1.trans e)
theorem lt_and {fa fb : M Bool} {Q : Bool → Hp → Prop} (h : LT F E (bnd fa (byb fb (ret false))) σ H Q) : tAnd (LT F E fa) (LT F E fb) σ H Q := by
  obtain ⟨Z, ow, s, K, R, hf, hq⟩ := h
  refine ⟨Z, ow, s, _, R, hf, fun b s1 H1 ow1 k1 R1 e1 => ?_⟩
  cases b with
  | true =>
    rw [if_pos rfl]
    exact ⟨Z, ow1, s1, _, R1, k1, fun b s2 H2 ow2 k2 R2 e2 => hq b s2 H2 ow2 k2 R2 (e1.trans e2)⟩
  | false =>
    rw [if_neg Bool.false_ne_true]
    exact hq false s1 H1 ow1 k1 R1 e1
theorem lt_or {fa fb : M Bool} {Q : Bool → Hp → Prop} (h : LT F E (bnd fa (byb (ret true) fb)) σ H Q) : tOr (LT F E fa) (LT F E fb) σ H Q := by
  obtain ⟨Z, ow, s, K, R, hf, hq⟩ := h
  refine ⟨Z, ow, s, _, R, hf, fun b s1 H1 ow1 k1 R1 e1 => ?_⟩
  cases b with
  | false =>
    rw [if_neg Bool.false_ne_true]
    exact ⟨Z, ow1, s1, _, R1, k1, fun b s2 H2 ow2 k2 R2 e2 => hq b s2 H2 ow2 k2 R2 (e1.trans e2)⟩
  | true =>
    rw [if_pos rfl]
    exact hq true s1 H1 ow1 k1 R1 e1
theorem lt_not {fa : M Bool} {Q : Bool → Hp → Prop} (h : LT F E (bnd fa fun b => ret (!b)) σ H Q) : tNot (LT F E fa) σ H Q := by
  obtain ⟨Z, ow, s, K, R, hf, hq⟩ := h
  exact ⟨Z, ow, s, _, R, hf, fun b s1 H1 ow1 k1 R1 e1 => hq (!b) s1 H1 ow1 k1 R1 e1⟩
theorem lr_if {ft : M Bool} {fa fb : M R} (h : LR F E (bnd ft (byb fa fb)) σ H Q) : tIf (LT F E ft) (LR F E fa) (LR F E fb) σ H Q := by
  obtain ⟨Z, ow, s, K, R, hf, hq⟩ := h
  refine ⟨Z, ow, s, _, R, hf, fun b s1 H1 ow1 k1 R1 e1 => ?_⟩
  cases b with
  | true =>
    rw [if_pos rfl]
    exact ⟨Z, ow1, s1, K, R1, k1, fun r s2 v2 H2 ow2 k2 rr e2 => hq r s2 v2 H2 ow2 k2 (rr.back e1.dm) (e1.trans e2)⟩
  | false =>
    rw [if_neg Bool.false_ne_true]
    exact ⟨Z, ow1, s1, K, R1, k1, fun r s2 v2 H2 ow2 k2 rr e2 => hq r s2 v2 H2 ow2 k2 (rr.back e1.dm) (e1.trans e2)⟩
theorem lr_andV {fa fb : M R} (h : LR F E (bnd (toD fa) (byB (ofD (toD fb)) (rd (.bl false)))) σ H Q) : tAndV (LR F E fa) (LR F E fb) σ H Q := by
  obtain ⟨Z, ow, s, K, R, hf, hq⟩ := h
  refine ⟨Z, ow, s, _, R, hf, fun r s1 v1 H1 ow1 k1 rr e1 => ?_⟩
  obtain ⟨R1, z⟩ := rr.fz' R
  cases hd : r.d with
  | bl b =>
    rw [hd] at k1 z
    cases z
    refine ⟨b, rfl, ?_⟩
    cases b with
    | true =>
      rw [if_pos rfl]
      exact ⟨Z, ow1, s1, _, R1, k1, fun r s2 v2 H2 ow2 k2 rr e2 => hq (.fz r.d) s2 v2 H2 ow2 k2 (rr.fz' R1) (e1.trans e2)⟩
    | false =>
      rw [if_neg Bool.false_ne_true]
      exact hq (.fz (.bl false)) s1 _ H1 ow1 k1 ⟨R1, .bl _⟩ e1
  | _ => rw [hd] at k1; exact k1.elim
theorem lr_orV {fa fb : M R} (h : LR F E (bnd (toD fa) (byB (rd (.bl true)) (ofD (toD fb)))) σ H Q) : tOrV (LR F E fa) (LR F E fb) σ H Q := by
  obtain ⟨Z, ow, s, K, R, hf, hq⟩ := h
  refine ⟨Z, ow, s, _, R, hf, fun r s1 v1 H1 ow1 k1 rr e1 => ?_⟩
  obtain ⟨R1, z⟩ := rr.fz' R
  cases hd : r.d with
  | bl b =>
    rw [hd] at k1 z
    cases z
    refine ⟨b, rfl, ?_⟩
    cases b with
    | false =>
      rw [if_neg Bool.false_ne_true]
      exact ⟨Z, ow1, s1, _, R1, k1, fun r s2 v2 H2 ow2 k2 rr e2 => hq (.fz r.d) s2 v2 H2 ow2 k2 (rr.fz' R1) (e1.trans e2)⟩
    | true =>
      rw [if_pos rfl]
      exact hq (.fz (.bl true)) s1 _ H1 ow1 k1 ⟨R1, .bl _⟩ e1
  | _ => rw [hd] at k1; exact k1.elim
/-- a new list, a new tuple -/
theorem rr_newL {p : Addr} {vs : List V} {xs : List D} (R : Rep F Z ow σ H s) (h : H p = none) (l : FzL F.G (Av' Z ow) H vs xs) : RR F Z H ow σ (upd H p (.lst vs)) s (.ref p) (.nl xs) := by
  obtain ⟨nm, n0, nz⟩ := R.new0 h
  exact ⟨p, vs, rfl, h, fun z => nz (.inl z), nm, n0, R.alloc h, upd_same, l.tr (Keep.new (Z := Z) h) fun a z => by
    rcases z with (z | rfl) | z
    · exact .inl (.inl z)
    · exact .inr h
    · exact .inl (.inr z)⟩
theorem rr_newT {p : Addr} {vs : List V} {xs : List D} (R : Rep F Z ow σ H s) (h : H p = none) (l : FzL F.G (Av' Z ow) H vs xs) : RR F Z H ow σ (upd H p (.tup vs)) s (.ref p) (.fz (.tup xs)) := by
  obtain ⟨nm, n0, nz⟩ := R.new0 h
  exact ⟨R.alloc0 h, .tup nz upd_same (l.keep (Keep.new (Z := Z) h))⟩
theorem lr_lst {fs : M (List D)} (h : LR F E (bnd fs fun ds => need (ds.length ≤ sizeLine) (ret (.nl ds))) σ H Q) : tLst (LDs F E fs) σ H Q := by
  obtain ⟨Z, ow, s, K, R, hf, hq⟩ := h
  refine ⟨Z, ow, s, _, R, hf, fun xs s1 vs H1 ow1 k1 R1 l e1 => ⟨by rw [l.length]; exact k1.1, fun p hp => ?_⟩⟩
  exact hq (.nl xs) s1 _ _ ow1 k1.2 ((rr_newL R1 hp l).back e1.dm) (e1.trans (Eff.new hp))
theorem lr_tup {fs : M (List D)} (h : LR F E (bnd fs fun ds => need (ds.length ≤ sizeLine) (rd (.tup ds))) σ H Q) : tTup (LDs F E fs) σ H Q := by
  obtain ⟨Z, ow, s, K, R, hf, hq⟩ := h
  refine ⟨Z, ow, s, _, R, hf, fun xs s1 vs H1 ow1 k1 R1 l e1 => ⟨by rw [l.length]; exact k1.1, fun p hp => ?_⟩⟩
  exact hq (.fz (.tup xs)) s1 _ _ ow1 k1.2 ((rr_newT R1 hp l).back e1.dm) (e1.trans (Eff.new hp))
end
end PP
set_option Elab.async false
set_option linter.all false
set_option maxRecDepth 100000
set_option maxHeartbeats 2000000
namespace PP
open PySem PySem.Spec L2
section
open PyProof.Rows
variable {X : Cx}
theorem ix_dict (hu : X.A.units + 1 < cLine) : IxR X (fun x y H Q => ∃ a v, x = .ref a ∧ DGet H a y (some v) ∧ Q v H) := by
  intro value slice pins s σ H x y v u Q I rx ry h hs
  obtain ⟨a, w, rfl, g, q⟩ := h
  obtain rfl : v = Value.ref a := rx
  have hT := dict_typeIs I g
  have h₂ : wpAny (model X.prog X.w) X.A (getItem (.ref a) u) (EP X pins σ Q) X.xe s := d_getItem hu I g ry fun w' s3 I3 rw' => ⟨w, H, I3, rw', q⟩
  unfold subscriptTail
  refine wpAny_bind ?_
  rw [getitemInPython_of_ne hT.not_modules]
  refine wpAny_bind (wpAny_specialOf hT PySem.F.slot_dict_getitem.lookup ?_)
  have fin : wpAny (model X.prog X.w) X.A (subscripted slice false (.ref a) u) (fun r s₃ => wpAny (model X.prog X.w) X.A (letTemporaryGo value (.ref a) r >>= fun _ => pure r) (EP X pins σ Q) X.xe s₃) X.xe s := by
    rw [hs]
    exact wpAny_operating (wpAny_mono h₂ (fun r s₃ h₃ => wpAny_bind (wpAny_letTemporaryGo (wpAny_pure h₃))) fun _ _ x => x)
  first
    | exact wpAny_pure (wpAny_bind fin)
    | exact wpAny_bind (wpAny_pure (wpAny_bind fin))
    | exact wpAny_bind fin
def rInD (neg : Bool) : R2 := fun x y H Q => ∃ a o, y = .ref a ∧ DGet H a x o ∧ Q (.bl (if neg then !o.isSome else o.isSome)) H
theorem op_inD (hu : X.A.units + 1 < cLine) : OpR X (compareOp .In) (rInD false) := by
  intro pins s σ H x y v u Q I rx ry h
  obtain ⟨a, o, rfl, g, q⟩ := h
  obtain rfl : u = Value.ref a := ry
  exact d_in hu I g rx fun s' I' => ⟨.bl _, H, I', rfl, q⟩
theorem op_notInD (hu : X.A.units + 1 < cLine) : OpR X (compareOp .NotIn) (rInD true) := by
  intro pins s σ H x y v u Q I rx ry h
  obtain ⟨a, o, rfl, g, q⟩ := h
  obtain rfl : u = Value.ref a := ry
  exact d_notIn hu I g rx fun s' I' => ⟨.bl _, H, I', rfl, q⟩
def rAddS : R2 := fun x y H Q => ∃ i j, x = .str i ∧ y = .str j ∧ i.length + j.length ≤ sizeLine ∧ Q (.str (i ++ j)) H
def rAddA (K : PySem.W.Frag) : R2 := fun x y H Q => (rI0 (fun i j => .int (i + j)) x y H Q) ∨ (rAddS x y H Q) ∨ (rCat x y H Q) ∨ (rCatA K x y H Q)
theorem op_addA : OpR X (binaryOp .Add) (rAddA X.K) := op_add.or (op_add_str.or (op_cat.or op_catA))
def rLtS : R2 := fun x y H Q => ∃ i j, x = .str i ∧ y = .str j ∧ Q (.bl (decide (i.cps.toList < j.cps.toList))) H
def rSign (neg : Bool) : R2 := fun x y H Q => ∃ (c : Nat) (z : Str), x = .str ⟨#[c]⟩ ∧ y = .str z ∧ Q (.bl (if neg then !decide (c ∈ z.cps.toList) else decide (c ∈ z.cps.toList))) H
def rInA (K : PySem.W.Frag) (neg : Bool) : R2 := fun x y H Q => (rIn K neg x y H Q) ∨ (rInD neg x y H Q) ∨ (rSign neg x y H Q)
theorem op_inA (hu : X.A.units + 1 < cLine) : OpR X (compareOp .In) (rInA X.K false) := op_in_seq.or ((op_inD hu).or op_in_sign)
theorem op_notInA (hu : X.A.units + 1 < cLine) : OpR X (compareOp .NotIn) (rInA X.K true) := op_notIn_seq.or ((op_notInD hu).or op_notIn_sign)
def rEqA (K : PySem.W.Frag) : R2 := fun x y H Q => rEq x y H Q ∨ rEqD K x y H Q
def rNeA (K : PySem.W.Frag) : R2 := fun x y H Q => rNe x y H Q ∨ rNeD K x y H Q
theorem op_eqA (hu : X.A.units + 64 < cLine) : OpR X (compareOp .Eq) (rEqA X.K) := op_eq.or (op_eqD hu)
theorem op_neA (hu : X.A.units + 64 < cLine) : OpR X (compareOp .NotEq) (rNeA X.K) := op_ne.or (op_neD hu)
def rIxA (K : PySem.W.Frag) : R2 := fun x y H Q => rIx K x y H Q ∨ ∃ a v, x = .ref a ∧ DGet H a y (some v) ∧ Q v H
theorem ix_all (hu : X.A.units + 1 < cLine) : IxR X (rIxA X.K) := ix_seq.or (ix_dict hu)
end
section
variable {F : Fm} {G : Gc} {E : XC} {A Z : AS} {ow : Ow} {σ : L2.St} {H : Hp} {s : S} {v : V}
theorem view_int {i : Int} (h : View F A H v (.int i)) : v = .int i := by cases (show Fz F.G A H v (.int i) from h); rfl
theorem view_str {i : Str} (h : View F A H v (.str i)) : v = .str i := by cases (show Fz F.G A H v (.str i) from h); rfl
theorem view_bl {i : Bool} (h : View F A H v (.bl i)) : v = .bl i := by cases (show Fz F.G A H v (.bl i) from h); rfl
theorem view_non (h : View F A H v .non) : v = .non := by cases (show Fz F.G A H v .non from h); rfl
theorem view_sc {d : D} (hd : isScalar d = true) (h : View F A H v d) : v = toV d := by
  cases d with
  | non => exact view_non h
  | bl b => exact view_bl h
  | int i => exact view_int h
  | str x => exact view_str h
  | _ => cases hd
theorem fz_sc {d : D} (hd : isScalar d = true) (h : Fz G A H v d) : v = toV d := by
  cases h <;> first | rfl | cases hd
theorem fz_of_sc {d : D} (hd : isScalar d = true) : Fz G A H (toV d) d := by
  cases d with
  | non => exact .non
  | bl b => exact .bl b
  | int i => exact .int i
  | str x => exact .str x
  | _ => cases hd
theorem fzl_sc : ∀ {vs : List V} {ds : List D}, ds.all isScalar = true → FzL G A H vs ds → vs = ds.map toV
  | _, _, _, .nil => rfl
  | _, _, h, .cons a b => by
    rw [List.all_cons, Bool.and_eq_true] at h
    rw [List.map_cons, ← fz_sc h.1 a, ← fzl_sc h.2 b]
theorem flat_sc : ∀ {ds : List D}, ds.all isScalar = true → (ds.map toV).all flatV = true
  | [], _ => rfl
  | d :: ds, h => by
    rw [List.all_cons, Bool.and_eq_true] at h
    rw [List.map_cons, List.all_cons, flat_sc h.2, Bool.and_true]
    cases d <;> first | rfl | cases h.1
theorem flat1 {d : D} (h : isScalar d = true) : flatV (toV d) = true := by cases d <;> first | rfl | cases h
theorem inV_map (x : D) (ds : List D) : inV (toV x) (ds.map toV) = inD x ds := by
  unfold inV inD
  rw [List.any_map]
  rfl
theorem view_tup {xs : List D} (h : View F A H v (.tup xs)) : ∃ a vs, v = .ref a ∧ SqT F.G.K H a vs ∧ FzL F.G A H vs xs := by
  cases (show Fz F.G A H v (.tup xs) from h) with
  | tup n e l => exact ⟨_, _, rfl, SqT.of e, l⟩
/-- the data of lists and tuples: for == -/
theorem view_lst {xs : List D} (h : View F A H v (.lst xs)) : ∃ a vs, v = .ref a ∧ H a = some (.lst vs) ∧ FzL F.G A H vs xs := h
mutual
theorem Fz.dp : ∀ {v : V} {d : D}, (pd d).canLay0 = true → Fz G A H v d → Dp G.K H v (pd d)
  | _, _, _, .non => .non
  | _, _, _, .bl b => .bl b
  | _, _, _, .int b => .int b
  | _, _, _, .str b => .str b
  | _, _, h, .lst n e l => .lst (SqL.of e) (FzL.dp h l)
  | _, _, h, .tup n e l => .tup (SqT.of e) (FzL.dp h l)
  | _, _, h, .dct _ _ _ _ => by cases h
  | _, _, h, .dctT _ _ _ _ => by cases h
  | _, _, h, .obj _ _ _ _ => by cases h
  | _, _, h, .kt _ _ => by cases h
theorem FzL.dp : ∀ {v : List V} {d : List D}, PyData.canLayAll0 (pds d) = true → FzL G A H v d → DpAll G.K H v (pds d)
  | _, _, _, .nil => .nil
  | _, _, h, .cons a b => by
    rw [pds, PyData.canLayAll0, Bool.and_eq_true] at h
    exact .cons (Fz.dp h.1 a) (FzL.dp h.2 b)
end
theorem View.dp {d : D} (hc : (pd d).canLay0 = true) (h : View F A H v d) : Dp F.G.K H v (pd d) := by
  cases d with
  | lst xs =>
    obtain ⟨a, vs, rfl, e, l⟩ := h
    exact .lst (SqL.of e) (l.dp hc)
  | dct kvs => cases hc
  | _ => exact Fz.dp hc h
end
section
variable {F : Fm} {E : XC}
theorem rr_sc {Z : AS} {ow : Ow} {σ : L2.St} {H : Hp} {s : S} (R : Rep F Z ow σ H s) (d : D) (h : isScalar d = true) : RR F Z H ow σ H s (toV d) (.fz d) := ⟨R, fz_of_sc h⟩
theorem ops_add : OpS F E qAdd (rAddA F.G.K) := by
  intro Z ow σ H s K x y vx vy Q R hx hy w k
  cases x with
  | int i =>
    cases y with
    | int j =>
      cases view_int hx; cases view_int hy
      exact .inl ⟨i, j, rfl, rfl, k _ _ _ _ _ w (rr_sc R (.int (i + j)) rfl) (Eff.refl _ _ _ _)⟩
    | _ => exact w.elim
  | str a =>
    cases y with
    | str b =>
      cases view_str hx; cases view_str hy
      exact .inr (.inl ⟨a, b, rfl, rfl, w.1, k _ _ _ _ _ w.2 (rr_sc R (.str (a ++ b)) rfl) (Eff.refl _ _ _ _)⟩)
    | _ => exact w.elim
  | lst xs =>
    cases y with
    | lst ys =>
      obtain ⟨a, vs, rfl, e1, l1⟩ := hx
      obtain ⟨b, ws, rfl, e2, l2⟩ := hy
      refine .inr (.inr (.inl ⟨a, b, vs, ws, rfl, rfl, e1, e2, by rw [l1.length, l2.length]; exact w.1, fun p hp => ?_⟩))
      exact k _ _ _ _ _ w.2 (rr_newL R hp (l1.append l2)) (Eff.new hp)
    | _ => exact w.elim
  | tup xs =>
    cases y with
    | tup ys =>
      have zx : Fz F.G (Av' Z ow) H vx (.tup xs) := hx
      have zy : Fz F.G (Av' Z ow) H vy (.tup ys) := hy
      obtain ⟨a, vs, rfl, e1, l1⟩ := view_tup hx
      obtain ⟨b, ws, rfl, e2, l2⟩ := view_tup hy
      refine .inr (.inr (.inr ⟨a, b, vs, ws, rfl, rfl, e1, e2, by rw [l1.length, l2.length]; exact w.1, fun h0 => ?_, fun _ h0 => ?_, fun _ _ p hp => ?_⟩))
      · subst h0
        cases l1
        exact k _ _ _ _ _ w.2 ⟨R, zy⟩ (Eff.refl _ _ _ _)
      · subst h0
        cases l2
        have w2 : K (.fz (.tup (xs ++ []))) s := w.2
        rw [List.append_nil] at w2
        exact k _ _ _ _ _ w2 ⟨R, zx⟩ (Eff.refl _ _ _ _)
      · exact k _ _ _ _ _ w.2 (rr_newT R hp (l1.append l2)) (Eff.new hp)
    | _ => exact w.elim
  | _ => exact w.elim
theorem ops_int {op : D → D → M R} {C : Int → Int → Prop} {g : Int → Int → D} {gv : Int → Int → V} (hg : ∀ i j, isScalar (g i j) = true ∧ toV (g i j) = gv i j) (ho : ∀ x y s K, op x y s K E → ∃ i j, x = .int i ∧ y = .int j ∧ C i j ∧ K (.fz (g i j)) s) : OpS F E op (rI C gv) := by
  intro Z ow σ H s K x y vx vy Q R hx hy w k
  obtain ⟨i, j, rfl, rfl, c, w'⟩ := ho x y s K w
  cases view_int hx; cases view_int hy
  refine ⟨i, j, rfl, rfl, c, ?_⟩
  rw [← (hg i j).2]
  exact k _ _ _ _ _ w' (rr_sc R (g i j) (hg i j).1) (Eff.refl _ _ _ _)
theorem ops_int0 {op : D → D → M R} {g : Int → Int → D} {gv : Int → Int → V} (hg : ∀ i j, isScalar (g i j) = true ∧ toV (g i j) = gv i j) (ho : ∀ x y s K, op x y s K E → ∃ i j, x = .int i ∧ y = .int j ∧ K (.fz (g i j)) s) : OpS F E op (rI0 gv) := by
  intro Z ow σ H s K x y vx vy Q R hx hy w k
  obtain ⟨i, j, rfl, rfl, w'⟩ := ho x y s K w
  cases view_int hx; cases view_int hy
  refine ⟨i, j, rfl, rfl, ?_⟩
  rw [← (hg i j).2]
  exact k _ _ _ _ _ w' (rr_sc R (g i j) (hg i j).1) (Eff.refl _ _ _ _)
theorem ops_mul : OpS F E (qBin .mul) (rI CMul fun i j => .int (i * j)) := ops_int (g := fun i j => .int (i * j)) (fun _ _ => ⟨rfl, rfl⟩) fun x y s K w => by
  cases x <;> try exact w.elim
  cases y <;> first | exact ⟨_, _, rfl, rfl, w.1, w.2⟩ | exact w.elim
theorem ops_fdiv : OpS F E (qBin .fdiv) (rI CDiv fun i j => .int (i / j)) := ops_int (g := fun i j => .int (i / j)) (fun _ _ => ⟨rfl, rfl⟩) fun x y s K w => by
  cases x <;> try exact w.elim
  cases y <;> first | exact ⟨_, _, rfl, rfl, w.1, w.2⟩ | exact w.elim
theorem ops_mod : OpS F E (qBin .mod) (rI (fun _ j => 0 < j) fun i j => .int (i % j)) := ops_int (g := fun i j => .int (i % j)) (fun _ _ => ⟨rfl, rfl⟩) fun x y s K w => by
  cases x <;> try exact w.elim
  cases y <;> first | exact ⟨_, _, rfl, rfl, w.1, w.2⟩ | exact w.elim
theorem ops_le : OpS F E (qCmp .le) (rI0 fun i j => .bl (decide (i ≤ j))) := ops_int0 (g := fun i j => .bl (decide (i ≤ j))) (fun _ _ => ⟨rfl, rfl⟩) fun x y s K w => by
  cases x <;> try exact w.elim
  cases y <;> first | exact ⟨_, _, rfl, rfl, w⟩ | exact w.elim
theorem ops_gt : OpS F E (qCmp .gt) (rI0 fun i j => .bl (decide (j < i))) := ops_int0 (g := fun i j => .bl (decide (j < i))) (fun _ _ => ⟨rfl, rfl⟩) fun x y s K w => by
  cases x <;> try exact w.elim
  cases y <;> first | exact ⟨_, _, rfl, rfl, w⟩ | exact w.elim
def rLtA : R2 := fun x y H Q => rI0 (fun i j => .bl (decide (i < j))) x y H Q ∨ rLtS x y H Q
theorem ops_lt : OpS F E (qCmp .lt) rLtA := by
  intro Z ow σ H s K x y vx vy Q R hx hy w k
  cases x with
  | int i =>
    cases y with
    | int j =>
      cases view_int hx; cases view_int hy
      exact .inl ⟨i, j, rfl, rfl, k _ _ _ _ _ w (rr_sc R (.bl (decide (i < j))) rfl) (Eff.refl _ _ _ _)⟩
    | _ => exact w.elim
  | str i =>
    cases y with
    | str j =>
      cases view_str hx; cases view_str hy
      exact .inr ⟨i, j, rfl, rfl, k _ _ _ _ _ w (rr_sc R (.bl (decide (i.cps.toList < j.cps.toList))) rfl) (Eff.refl _ _ _ _)⟩
    | _ => exact w.elim
  | _ => exact w.elim
theorem ops_eqN {op : D → D → M R} (neg : Bool) (hop : op = qEq neg) {r : R2} (hr : ∀ x y H Q, (scal x y = true ∧ Q (.bl (if neg then !decide (x = y) else decide (x = y))) H) ∨
    (∃ d e, Dp F.G.K H x d ∧ Dp F.G.K H y e ∧ SeqAt.shaped d = true ∧ SeqAt.shaped e = true ∧ Q (.bl (if neg then !PyData.eqv d e else PyData.eqv d e)) H) → r x y H Q) : OpS F E op r := by
  intro Z ow σ H s K x y vx vy Q R hx hy w k
  subst hop
  apply hr
  unfold qEq at w
  by_cases hs : (scal (toV x) (toV y) && (isScalar x && isScalar y)) = true
  · rw [if_pos hs] at w
    simp only [Bool.and_eq_true] at hs
    left
    rw [view_sc hs.2.1 hx, view_sc hs.2.2 hy]
    exact ⟨hs.1, k _ _ _ _ _ w (rr_sc R (.bl _) rfl) (Eff.refl _ _ _ _)⟩
  · rw [if_neg hs] at w
    right
    obtain ⟨w1, w2⟩ := w
    unfold eqOk at w1
    rw [Bool.and_eq_true] at w1
    have c1 : (pd x).canLay0 = true := by
      have := w1.1; unfold SeqAt.shaped at this; rw [Bool.and_eq_true] at this; exact this.1
    have c2 : (pd y).canLay0 = true := by
      have := w1.2; unfold SeqAt.shaped at this; rw [Bool.and_eq_true] at this; exact this.1
    exact ⟨_, _, hx.dp c1, hy.dp c2, w1.1, w1.2, k _ _ _ _ _ w2 (rr_sc R (.bl _) rfl) (Eff.refl _ _ _ _)⟩
theorem ops_eq : OpS F E (qCmp .eq) (rEqA F.G.K) := ops_eqN (op := qCmp .eq) false rfl fun x y H Q h => h
theorem ops_ne : OpS F E (qCmp .ne) (rNeA F.G.K) := ops_eqN (op := qCmp .ne) true rfl fun x y H Q h => h
theorem kV_of {k : Key} {d : D} (h : keyOf d = some k) : toV d = kV k := by
  cases d with
  | int i => cases h; rfl
  | str x => cases h; rfl
  | _ => cases h
theorem key_sc {k : Key} {d : D} (h : keyOf d = some k) : isScalar d = true := by
  cases d with
  | int i => rfl
  | str x => rfl
  | _ => cases h
theorem look_val {κ : Type} [DecidableEq κ] {G : Gc} {A : AS} {H : Hp} (k : κ) : ∀ {kvs : List (κ × V)} {ds : List (κ × D)}, kvs.map (·.1) = ds.map (·.1) → FzL G A H (kvs.map (·.2)) (ds.map (·.2)) →
    (valV kvs k = none ∧ look ds k = none) ∨ ∃ v d, valV kvs k = some v ∧ look ds k = some d ∧ Fz G A H v d
  | [], [], _, _ => .inl ⟨rfl, rfl⟩
  | [], _ :: _, h, _ => by cases h
  | _ :: _, [], h, _ => by cases h
  | (a, v) :: kvs, (b, d) :: ds, h, l => by
    rw [List.map_cons, List.map_cons, List.cons.injEq] at h
    obtain ⟨h1, h2⟩ := h
    have h1' : a = b := h1
    subst h1'
    rw [List.map_cons, List.map_cons] at l
    cases l with
    | cons l1 l2 =>
      by_cases e : a = k
      · right
        exact ⟨v, d, by simp [valV, e], by simp [look, e], l1⟩
      · rcases look_val k h2 l2 with ⟨q1, q2⟩ | ⟨v', d', q1, q2, q3⟩
        · left
          unfold valV at q1; unfold look at q2
          exact ⟨by simpa [valV, e] using q1, by simpa [look, e] using q2⟩
        · right
          unfold valV at q1; unfold look at q2
          exact ⟨v', d', by simpa [valV, e] using q1, by simpa [look, e] using q2, q3⟩
theorem ops_inN {op : D → D → M R} (neg : Bool) (hop : op = qIn neg) : OpS F E op (rInA F.G.K neg) := by
  intro Z ow σ H s K x y vx vy Q R hx hy w k
  subst hop
  have seq : ∀ (a : Addr) (vs : List V) (xs : List D), vy = .ref a → (SqL F.G.K H a vs ∨ SqT F.G.K H a vs) → FzL F.G (Av' Z ow) H vs xs → isScalar x = true ∧ xs.all isScalar = true → K (.fz (.bl (if neg then !inD x xs else inD x xs))) s → rInA F.G.K neg vx vy H Q := by
    intro a vs xs e1 e2 l hs w
    have ev := fzl_sc hs.2 l
    refine .inl ⟨a, vs, e1, e2, by rw [view_sc hs.1 hx]; exact flat1 hs.1, by rw [ev]; exact flat_sc hs.2, ?_⟩
    rw [ev, view_sc hs.1 hx, inV_map]
    exact k _ _ _ _ _ w (rr_sc R (.bl _) rfl) (Eff.refl _ _ _ _)
  have dict : ∀ (ky : Key) (kvs : List (Key × D)), y = .dct kvs → keyOf x = some ky → K (.fz (.bl (if neg then !(look kvs ky).isSome else (look kvs ky).isSome))) s → rInA F.G.K neg vx vy H Q := by
    intro ky ds ey ek w'
    subst ey
    obtain ⟨a, kvs, rfl, e2, ek2, l⟩ := hy
    have hv : vx = kV ky := by rw [view_sc (key_sc ek) hx]; exact kV_of ek
    refine .inr (.inl ⟨a, valV kvs ky, rfl, .inl ⟨kvs, ky, e2, hv, rfl⟩, ?_⟩)
    have es : (valV kvs ky).isSome = (look ds ky).isSome := by
      rcases look_val ky ek2 l with ⟨q1, q2⟩ | ⟨_, _, q1, q2, _⟩ <;> rw [q1, q2] <;> rfl
    rw [es]
    exact k _ _ _ _ _ w' (rr_sc R (.bl _) rfl) (Eff.refl _ _ _ _)
  cases y with
  | lst ys =>
    obtain ⟨a, vs, rfl, e, l⟩ := hy
    cases x <;> exact seq a vs ys rfl (.inl (SqL.of e)) l w.1 w.2
  | tup ys =>
    obtain ⟨a, vs, rfl, e, l⟩ := view_tup hy
    cases x <;> exact seq a vs ys rfl (.inr e) l w.1 w.2
  | dct kvs =>
    cases x with
    | int i => exact dict (.inl i) kvs rfl rfl w
    | str i => exact dict (.inr i) kvs rfl rfl w
    | _ => exact w.elim
  | str z =>
    cases x with
    | str i =>
      obtain ⟨⟨l⟩⟩ := i
      match l, w with
      | [c], w =>
        cases view_str hx; cases view_str hy
        exact .inr (.inr ⟨c, z, rfl, rfl, k _ _ _ _ _ w (rr_sc R (.bl _) rfl) (Eff.refl _ _ _ _)⟩)
      | [], w => exact w.elim
      | _ :: _ :: _, w => exact w.elim
    | _ => exact w.elim
  | _ => cases x <;> exact w.elim
theorem ops_in : OpS F E (qCmp .isin) (rInA F.G.K false) := ops_inN false rfl
theorem ops_notin : OpS F E (qCmp .notin) (rInA F.G.K true) := ops_inN true rfl
end
end PP
set_option Elab.async false
set_option linter.all false
set_option maxRecDepth 100000
set_option maxHeartbeats 2000000
namespace PP
open PySem L2
/-- an error as data tell it: its class, its fields -/
def XcIs (G : Gc) (A : AS) (H : Hp) (cls : Value) (d : Option Addr) (xn : Xn) : Prop := cls = .ref (G.ga xn.1) ∧ ((d = none ∧ xn.2 = []) ∨ ∃ dx fs, d = some dx ∧ ¬ A dx ∧ H dx = some (.xd fs) ∧ fs.map (·.1) = xn.2.map (·.1) ∧ FzL G A H (fs.map (·.2)) (xn.2.map (·.2)))
/-- what is wished of errors -/
def wx (F : Fm) (E : XC) : WX := fun cls d σ H => ∃ Z ow s xn, Rep F Z ow σ H s ∧ XcIs F.G (Av' Z ow) H cls d xn ∧ E xn s
theorem takes_no {X : Cx} {F : Fm} : Takes X (wx F noX) := fun u s' ⟨_, _, _, _, _, _, _, _, _, _, _, _, _, _, _, _, ⟨_, _, _, _, _, _, w⟩⟩ => w.elim
structure Gd (X : Cx) (F : Fm) (E : XC) : Prop where
  hK : X.K = F.G.K
  calm : X.calm = true
  nd : X.N.Nodup
  u : X.A.units + 64 < cLine
  gs : X.A.guards = some []
  tk : Takes X (wx F E)
  tb : F.T.tb = F.G.tb
abbrev SX (X : Cx) (F : Fm) (E : XC) (Γ : Env) (e : Expr) (ir : Ex) : Prop := PE X e (LR F E (evP Γ ir).r)
abbrev VX (X : Cx) (F : Fm) (E : XC) (Γ : Env) (e : Expr) (ir : Ex) : Prop := PE X e (LV F E (vwOf ir (evP Γ ir).r))
abbrev TX (X : Cx) (F : Fm) (E : XC) (Γ : Env) (e : Expr) (ir : Ex) : Prop := PT X e (LT F E (evP Γ ir).t)
abbrev TWX (X : Cx) (F : Fm) (E : XC) (Γ : Env) (e : Expr) (ir : Ex) : Prop := PW X e (LT F E (evP Γ ir).t)
abbrev AX (X : Cx) (F : Fm) (E : XC) (Γ : Env) (es : List Expr) (irs : List Ex) : Prop := PA X es (LDs F E (evs Γ irs))
abbrev AVX (X : Cx) (F : Fm) (E : XC) (Γ : Env) (es : List Expr) (irs : List Ex) : Prop := PA X es (LVs F E (vws Γ irs))
def notVar : Ex → Bool
  | .var _ => false
  | _ => true
section
variable {X : Cx} {F : Fm} {E : XC} {Γ : Env} {a b c : Expr} {ia ib ic : Ex} {pos : Pos}
theorem Gd.u1 (g : Gd X F E) : X.A.units + 1 < cLine := by have := g.u; omega
theorem sx_var (i : Nat) {x : Str} (hN : X.N[i]? = some x := by rfl) (hv : Vis X.env.scope x := by first | exact Or.inl rfl | exact Or.inr (Or.inl rfl) | exact Or.inr (Or.inr rfl)) (hd : (x == ("__debug__" : Str)) = false := by decide)
    (hcd : (x == ("__classdict__" : Str)) = false := by decide) : SX X F E Γ (.Name x pos) (.var i) := PEimp (pe_var hN hv hd hcd) fun _ _ _ h => lr_var h
theorem vx_var (i : Nat) {x : Str} (hN : X.N[i]? = some x := by rfl) (hv : Vis X.env.scope x := by first | exact Or.inl rfl | exact Or.inr (Or.inl rfl) | exact Or.inr (Or.inr rfl)) (hd : (x == ("__debug__" : Str)) = false := by decide)
    (hcd : (x == ("__classdict__" : Str)) = false := by decide) : VX X F E Γ (.Name x pos) (.var i) := PEimp (pe_var hN hv hd hcd) fun _ _ _ h => lv_var h
theorem vwOf_eq {f : M R} {ir : Ex} (n : notVar ir = true) : vwOf ir f = bnd (toD f) fun d => ret (.d d) := by
  cases ir <;> first | rfl | cases n
theorem vx (h : SX X F E Γ a ia) (n : notVar ia = true := by rfl) : VX X F E Γ a ia := PEimp h fun σ H Q h => lv_val (by rw [← vwOf_eq n]; exact h)
theorem sx_int {i : Int} {k : Nat} : SX X F E Γ (.Constant (.int i) k pos) (.int i) := PEimp pe_int fun _ _ _ h => lr_c (d := .int i) (fun _ _ => .int i) h
theorem sx_str {x : Str} {k : Nat} : SX X F E Γ (.Constant (.str x) k pos) (.str x) := PEimp pe_str fun _ _ _ h => lr_c (d := .str x) (fun _ _ => .str x) h
theorem sx_bl {x : Bool} {k : Nat} : SX X F E Γ (.Constant (.bool x) k pos) (.bl x) := PEimp pe_bl fun _ _ _ h => lr_c (d := .bl x) (fun _ _ => .bl x) h
theorem sx_non {k : Nat} : SX X F E Γ (.Constant .none k pos) .non := PEimp pe_non fun _ _ _ h => lr_c (d := .non) (fun _ _ => .non) h
theorem lr_cst {x : Str} {d : D} {v : V} {σ : L2.St} {H : Hp} {Q : VK} (hc : Γ.cst x = some d) (hz : ∀ A H, Fz F.G A H v d) (h : LR F E (qCst Γ x) σ H Q) : tC v σ H Q := by
  obtain ⟨Z, ow, s, K, R, hf, hq⟩ := h
  unfold qCst at hf
  rw [hc] at hf
  exact hq (.fz d) s v H ow hf ⟨R, hz _ _⟩ (Eff.refl _ _ _ _)
theorem sx_cstS {x z : Str} {t : Tok} (hc : Γ.cst x = some (.str z)) (hm : X.mg x = some (.str z t)) (hg : Gl X x := by rfl) (hd : (x == ("__debug__" : Str)) = false := by decide) : SX X F E Γ (.Name x pos) (.cst x) :=
  PEimp (pe_glob (v := .str z) hg hm ⟨t, rfl⟩ hd) fun _ _ _ h => lr_cst hc (fun _ _ => .str z) h
theorem sx_cstI {x : Str} {z : Int} {t : Tok} (hc : Γ.cst x = some (.int z)) (hm : X.mg x = some (.int z t)) (hg : Gl X x := by rfl) (hd : (x == ("__debug__" : Str)) = false := by decide) : SX X F E Γ (.Name x pos) (.cst x) :=
  PEimp (pe_glob (v := .int z) hg hm ⟨t, rfl⟩ hd) fun _ _ _ h => lr_cst hc (fun _ _ => .int z) h
theorem sx_add (g : Gd X F E) (ha : VX X F E Γ a ia) (hb : VX X F E Γ b ib) : SX X F E Γ (.BinOp a .Add b pos) (.bin .add ia ib) := PEimp (pe_op op_addA ha hb) fun _ _ _ h => by rw [g.hK]; exact lr_bin ops_add h
theorem sx_mul (g : Gd X F E) (ha : VX X F E Γ a ia) (hb : VX X F E Γ b ib) : SX X F E Γ (.BinOp a .Mult b pos) (.bin .mul ia ib) := PEimp (pe_op op_mul ha hb) fun _ _ _ h => lr_bin ops_mul h
theorem sx_fdiv (g : Gd X F E) (ha : VX X F E Γ a ia) (hb : VX X F E Γ b ib) : SX X F E Γ (.BinOp a .FloorDiv b pos) (.bin .fdiv ia ib) := PEimp (pe_op op_fdiv ha hb) fun _ _ _ h => lr_bin ops_fdiv h
theorem sx_mod (g : Gd X F E) (ha : VX X F E Γ a ia) (hb : VX X F E Γ b ib) : SX X F E Γ (.BinOp a .Mod b pos) (.bin .mod ia ib) := PEimp (pe_op op_mod ha hb) fun _ _ _ h => lr_bin ops_mod h
theorem op_ltA : OpR X (compareOp .Lt) rLtA := op_lt.or op_lt_str
/-- which rule serves which comparison -/
structure CmpOk (X : Cx) (F : Fm) (E : XC) (op : CmpOp) (o : Cop) (r : R2) : Prop where
  x : OpR X (compareOp op) r
  s : OpS F E (qCmp o) r
theorem c_lt (g : Gd X F E) : CmpOk X F E .Lt .lt rLtA := ⟨op_ltA, ops_lt⟩
theorem c_le (g : Gd X F E) : CmpOk X F E .LtE .le (rI0 fun i j => .bl (decide (i ≤ j))) := ⟨op_le, ops_le⟩
theorem c_gt (g : Gd X F E) : CmpOk X F E .Gt .gt (rI0 fun i j => .bl (decide (j < i))) := ⟨op_gt, ops_gt⟩
theorem c_eq (g : Gd X F E) : CmpOk X F E .Eq .eq (rEqA F.G.K) := ⟨by rw [← g.hK]; exact op_eqA g.u, ops_eq⟩
theorem c_ne (g : Gd X F E) : CmpOk X F E .NotEq .ne (rNeA F.G.K) := ⟨by rw [← g.hK]; exact op_neA g.u, ops_ne⟩
theorem c_in (g : Gd X F E) : CmpOk X F E .In .isin (rInA F.G.K false) := ⟨by rw [← g.hK]; exact op_inA g.u1, ops_in⟩
theorem c_nin (g : Gd X F E) : CmpOk X F E .NotIn .notin (rInA F.G.K true) := ⟨by rw [← g.hK]; exact op_notInA g.u1, ops_notin⟩
def rIsNn (neg : Bool) : R2 := fun x y H Q => y = .non ∧ Q (.bl (if neg then !decide (x = .non) else decide (x = .non))) H
theorem ref_non {d : D} {A : AS} {H : Hp} {v : V} (h : View F A H v d) : decide (v = .non) = (match d with | .non => true | _ => false) := by
  cases d with
  | non => cases view_non h; rfl
  | bl b => cases view_bl h; rfl
  | int b => cases view_int h; rfl
  | str b => cases view_str h; rfl
  | lst xs => obtain ⟨a, _, rfl, _⟩ := h; rfl
  | dct xs => obtain ⟨a, _, rfl, _⟩ := h; rfl
  | tup xs => obtain ⟨a, _, rfl, _⟩ := view_tup h; rfl
  | dctT xs => cases (show Fz F.G A H v (.dctT xs) from h); rfl
  | obj c xs => cases (show Fz F.G A H v (.obj c xs) from h); rfl
  | kt xs => cases (show Fz F.G A H v (.kt xs) from h); rfl
theorem c_isn (g : Gd X F E) : CmpOk X F E .Is .isn (rIsNn false) := ⟨op_isN, fun Z ow σ H s K x y vx vy Q R hx hy w k => by
  cases y <;> try (cases x <;> exact w.elim)
  cases view_non hy
  refine ⟨rfl, ?_⟩
  rw [ref_non hx]
  cases x <;> exact k _ _ _ _ _ w (rr_sc R (.bl _) rfl) (Eff.refl _ _ _ _)⟩
theorem sx_cmp {op : CmpOp} {o : Cop} {r : R2} (h : CmpOk X F E op o r) (ha : VX X F E Γ a ia) (hb : VX X F E Γ b ib) (hm : behindInMarks op b = false := by first | exact nomark _ | rfl) : SX X F E Γ (.Compare a [op] [b] pos) (.cmp o ia ib) :=
  PEimp (pe_cmpR h.x ha hb hm) fun _ _ _ w => lr_bin h.s w
theorem qEq_bl {neg : Bool} {x y : D} {s : S} {K : R → S → Prop} (w : qEq neg x y s K E) : qEq neg x y s (fun r s' => K r s' ∧ ∃ b, r = .fz (.bl b)) E := by
  unfold qEq at w ⊢
  split
  · rename_i h; rw [if_pos h] at w; exact ⟨w, _, rfl⟩
  · rename_i h; rw [if_neg h] at w; exact ⟨w.1, w.2, _, rfl⟩
theorem qIn_bl {neg : Bool} {x y : D} {s : S} {K : R → S → Prop} (w : qIn neg x y s K E) : qIn neg x y s (fun r s' => K r s' ∧ ∃ b, r = .fz (.bl b)) E := by
  cases y with
  | lst ys => cases x <;> exact ⟨w.1, w.2, _, rfl⟩
  | tup ys => cases x <;> exact ⟨w.1, w.2, _, rfl⟩
  | dct ys => cases x <;> first | exact ⟨w, _, rfl⟩ | exact w.elim
  | str z =>
    cases x with
    | str i =>
      obtain ⟨⟨l⟩⟩ := i
      match l, w with
      | [c], w => exact ⟨w, _, rfl⟩
      | [], w => exact w.elim
      | _ :: _ :: _, w => exact w.elim
    | _ => exact w.elim
  | _ => cases x <;> exact w.elim
theorem qInD_bl {neg : Bool} {x y : D} {s : S} {K : R → S → Prop} (w : qInD neg x y s K E) : qInD neg x y s (fun r s' => K r s' ∧ ∃ b, r = .fz (.bl b)) E := by
  cases y with
  | lst ys => exact ⟨w.1, w.2, _, rfl⟩
  | _ => exact w.elim
theorem qEqd_bl {neg : Bool} {x y : D} {s : S} {K : R → S → Prop} (w : qEqd neg x y s K E) : qEqd neg x y s (fun r s' => K r s' ∧ ∃ b, r = .fz (.bl b)) E := by
  cases x <;> cases y <;> first | exact ⟨w.1, w.2, _, rfl⟩ | exact w.elim
theorem qCmp_bl {o : Cop} {x y : D} {s : S} {K : R → S → Prop} (w : qCmp o x y s K E) : qCmp o x y s (fun r s' => K r s' ∧ ∃ b, r = .fz (.bl b)) E := by
  cases o with
  | eq => exact qEq_bl w
  | ne => exact qEq_bl w
  | isin => exact qIn_bl w
  | notin => exact qIn_bl w
  | eqd => exact qEqd_bl w
  | ned => exact qEqd_bl w
  | isinD => exact qInD_bl w
  | notinD => exact qInD_bl w
  | isn => cases x <;> cases y <;> first | exact ⟨w, _, rfl⟩ | exact w.elim
  | notn => cases x <;> cases y <;> first | exact ⟨w, _, rfl⟩ | exact w.elim
  | lt => cases x <;> cases y <;> first | exact ⟨w, _, rfl⟩ | exact w.elim
  | le => cases x <;> cases y <;> first | exact ⟨w, _, rfl⟩ | exact w.elim
  | gt => cases x <;> cases y <;> first | exact ⟨w, _, rfl⟩ | exact w.elim
  | ge => cases x <;> cases y <;> first | exact ⟨w, _, rfl⟩ | exact w.elim
theorem tx_cmp {op : CmpOp} {o : Cop} {r : R2} (h : CmpOk X F E op o r) (ha : VX X F E Γ a ia) (hb : VX X F E Γ b ib) (hm : behindInMarks op b = false := by first | exact nomark _ | rfl) : TX X F E Γ (.Compare a [op] [b] pos) (.cmp o ia ib) :=
  PTimp (pt_cmpR h.x ha hb hm) fun σ H Q w => by
    obtain ⟨Z, ow, s, K, R, hf, hq⟩ := w
    refine ⟨Z, ow, s, _, R, hf, fun x s1 v1 H1 ow1 k1 R1 o1 e1 => ⟨Z, ow1, s1, _, R1, k1, fun y s2 v2 H2 ow2 k2 R2 o2 e2 => ?_⟩⟩
    obtain ⟨dx, w1, hx⟩ := res_ok R2 (o1.tr R1 e2) k2
    obtain ⟨dy, w2, hy⟩ := res_ok R2 o2 w1
    refine h.s Z ow2 σ H2 s2 _ dx dy v1 v2 _ R2 hx hy (qCmp_bl w2) fun r s' v H' ow' k rr e => ?_
    obtain ⟨k, bb, rfl⟩ := k
    obtain ⟨R', z⟩ := rr
    cases z
    exact ⟨bb, rfl, hq bb s' H' ow' k.2 R' ((e1.trans e2).trans e)⟩
/-- a < b <= c -/
theorem sx_cmp2 {op op' : CmpOp} {o o' : Cop} {r r' : R2} (h : CmpOk X F E op o r) (h' : CmpOk X F E op' o' r') (ha : SX X F E Γ a ia) (hb : SX X F E Γ b ib) (hc : SX X F E Γ c ic) (hm : lastMarks [op, op'] [b, c] = false := by with_unfolding_all rfl) :
    SX X F E Γ (.Compare a [op, op'] [b, c] pos) (.cmp2 o o' ia ib ic) := PEimp (pe_chain h.x h'.x ha hb hc hm) fun σ H Q w => by
  obtain ⟨Z, ow, s, K, R, hf, hq⟩ := w
  refine ⟨Z, ow, s, _, R, hf, fun x s1 v1 H1 ow1 k1 rr1 e1 => ?_⟩
  obtain ⟨R1, z1⟩ := rr1.fz' R
  refine ⟨Z, ow1, s1, _, R1, k1, fun y s2 v2 H2 ow2 k2 rr2 e2 => ?_⟩
  obtain ⟨R2, z2⟩ := rr2.fz' R1
  refine h.s Z ow2 σ H2 s2 _ x.d y.d v1 v2 _ R2 (R1.fz e2 z1).view z2.view (qCmp_bl k2) fun r s' v H' ow' k rr e => ?_
  obtain ⟨k, bb, rfl⟩ := k
  obtain ⟨R', z⟩ := rr
  cases z
  refine ⟨bb, rfl, ?_⟩
  cases bb with
  | false =>
    rw [if_neg Bool.false_ne_true]
    exact hq (.fz (.bl false)) s' _ H' ow' k ⟨R', .bl _⟩ ((e1.trans e2).trans e)
  | true =>
    rw [if_pos rfl]
    refine ⟨Z, ow', s', _, R', k, fun w s4 v4 H4 ow4 k4 rr4 e4 => ?_⟩
    obtain ⟨R4, z4⟩ := rr4.fz' R'
    exact h'.s Z ow4 σ H4 s4 K y.d w.d v2 v4 Q R4 (R'.fz e4 (R2.fz e z2)).view z4.view k4 fun r s' v H' ow' k rr e5 => hq r s' v H' ow' k (rr.back (((e1.trans e2).trans e).trans e4).dm) ((((e1.trans e2).trans e).trans e4).trans e5)
theorem tru_of (hK : X.K = F.G.K) {A : AS} {H : Hp} {v : V} {d : D} (hd : truOk d) (h : View F A H v d) : TruV X.K v H (truth d) := by
  cases d with
  | non => cases view_non h; rfl
  | bl b => cases view_bl h; rfl
  | int b => cases view_int h; rfl
  | str b => cases view_str h; exact ⟨hd, by show (b.length != 0) = _; cases b.length <;> rfl⟩
  | lst xs =>
    obtain ⟨a, vs, rfl, e, l⟩ := h
    refine .inl ⟨vs, SqL.of e, ?_⟩
    cases l <;> rfl
  | tup xs =>
    obtain ⟨a, vs, rfl, e, l⟩ := view_tup h
    refine .inr (.inl ⟨vs, by rw [hK]; exact e, ?_⟩)
    cases l <;> rfl
  | _ => exact hd.elim
theorem pt_dfT (g : Gd X F E) (ha : VX X F E Γ a ia) (he : ∀ whole, isTrue a X.env whole = (do let v ← whole; standAt a.pos; holding [v] (truthy v)) := by intro _; rfl) : PT X a (LT F E (dfT ia (evP Γ ia).r)) :=
  PTimp (pt_truth ha he) fun σ H Q h => lt_val (e := ia) (g := qTru) (tr := fun x H' Q => ∃ k, TruV X.K x H' k ∧ Q k H') (fun Z ow σ H s K x vx Q R hx w k => ⟨_, tru_of g.hK w.1 hx, k _ _ _ _ w.2 R (Eff.refl _ _ _ _)⟩) h
def plainT : Ex → Bool
  | .and _ _ => false
  | .or _ _ => false
  | .not _ => false
  | _ => true
theorem evP_t : ∀ {ia : Ex}, plainT ia = true → notVar ia = true → (evP Γ ia).t = dfT ia (evP Γ ia).r := by
  intro ia h hv
  cases ia with
  | and => cases h
  | or => cases h
  | not => cases h
  | var => cases hv
  | pop i e => cases e <;> rfl
  | dct a b => cases a <;> cases b <;> rfl
  | _ => rfl
/-- any expression as a test -/
theorem tx (g : Gd X F E) (ha : VX X F E Γ a ia) (hp : plainT ia = true := by rfl) (he : ∀ whole, isTrue a X.env whole = (do let v ← whole; standAt a.pos; holding [v] (truthy v)) := by intro _; rfl) : TX X F E Γ a ia := by
  have h := pt_dfT g ha he
  cases ia with
  | and => cases hp
  | or => cases hp
  | not => cases hp
  | var i => exact h
  | _ =>
    rw [← evP_t hp rfl] at h
    exact h
theorem tx_not (ha : TX X F E Γ a ia) : TX X F E Γ (.UnaryOp .Not a pos) (.not ia) := PTimp (pt_not ha) fun _ _ _ h => lt_not h
theorem tw_and1 (ha : TX X F E Γ a ia) : TWX X F E Γ (.BoolOp .And [a] pos) ia := PWimp (pw_and1 ha) fun _ _ _ h => h
theorem tw_or1 (ha : TX X F E Γ a ia) : TWX X F E Γ (.BoolOp .Or [a] pos) ia := PWimp (pw_or1 ha) fun _ _ _ h => h
theorem tw_and {rest : List Expr} (ha : TX X F E Γ a ia) (hb : TWX X F E Γ (.BoolOp .And (b :: rest) pos) ib) : TWX X F E Γ (.BoolOp .And (a :: b :: rest) pos) (.and ia ib) := PWimp (pw_and ha hb) fun _ _ _ h => lt_and h
theorem tw_or {rest : List Expr} (ha : TX X F E Γ a ia) (hb : TWX X F E Γ (.BoolOp .Or (b :: rest) pos) ib) : TWX X F E Γ (.BoolOp .Or (a :: b :: rest) pos) (.or ia ib) := PWimp (pw_or ha hb) fun _ _ _ h => lt_or h
theorem tx_w (h : TWX X F E Γ a ia) : TX X F E Γ a ia := h.pt
theorem sx_not (g : Gd X F E) (ha : VX X F E Γ a ia) : SX X F E Γ (.UnaryOp .Not a pos) (.not ia) := PEimp (pe_notT ha) fun σ H Q h => by
  obtain ⟨Z, ow, s, K, R, hf, hq⟩ := h
  refine ⟨Z, ow, s, _, R, hf, fun x s1 v1 H1 ow1 k1 R1 o1 e1 => ?_⟩
  obtain ⟨dx, w1, hx⟩ := res_ok R1 o1 k1
  exact ⟨_, tru_of g.hK w1.1 hx, hq _ _ _ _ _ w1.2 (rr_sc R1 (.bl _) rfl |>.back e1.dm) e1⟩
theorem sx_one {op} (ha : SX X F E Γ a ia) : SX X F E Γ (.BoolOp op [a] pos) ia := pe_one ha
theorem sx_and {rest : List Expr} (ha : SX X F E Γ a ia) (hb : SX X F E Γ (.BoolOp .And (b :: rest) pos) ib) : SX X F E Γ (.BoolOp .And (a :: b :: rest) pos) (.and ia ib) := PEimp (pe_and ha hb) fun _ _ _ h => lr_andV h
theorem sx_or {rest : List Expr} (ha : SX X F E Γ a ia) (hb : SX X F E Γ (.BoolOp .Or (b :: rest) pos) ib) : SX X F E Γ (.BoolOp .Or (a :: b :: rest) pos) (.or ia ib) := PEimp (pe_or ha hb) fun _ _ _ h => lr_orV h
theorem sx_ite (hc : TX X F E Γ c ic) (ha : SX X F E Γ a ia) (hb : SX X F E Γ b ib) : SX X F E Γ (.IfExp c a b pos) (.ite ic ia ib) := PEimp (pe_ifExp hc ha hb) fun _ _ _ h => lr_if h
theorem ax_nil : AX X F E Γ [] [] := PAimp pa_nil fun _ _ _ h => lds_nil h
theorem ax_cons {es : List Expr} {is : List Ex} (ha : SX X F E Γ a ia) (hr : AX X F E Γ es is) (hs : starEach (a :: es) X.env = (false, eval a X.env) :: starEach es X.env := by rfl) : AX X F E Γ (a :: es) (ia :: is) := PAimp (pa_cons ha hr hs) fun _ _ _ h => lds_cons h
theorem avx_nil : AVX X F E Γ [] [] := PAimp pa_nil fun _ _ _ h => lvs_nil h
theorem avx_cons {es : List Expr} {is : List Ex} (ha : VX X F E Γ a ia) (hr : AVX X F E Γ es is) (hs : starEach (a :: es) X.env = (false, eval a X.env) :: starEach es X.env := by rfl) : AVX X F E Γ (a :: es) (ia :: is) := PAimp (pa_cons ha hr hs) fun _ _ _ h => lvs_cons h
theorem sx_lst {es : List Expr} {is : List Ex} (h : AX X F E Γ es is) : SX X F E Γ (.List es pos) (.lst is) := PEimp (pe_lst h) fun _ _ _ h => lr_lst h
theorem sx_tup {es : List Expr} {is : List Ex} {k : Nat} (h : AX X F E Γ es is) : SX X F E Γ (.Tuple es k pos) (.tup is) := PEimp (pe_tup h) fun _ _ _ h => lr_tup h
end
end PP
set_option Elab.async false
set_option linter.all false
set_option maxRecDepth 100000
set_option maxHeartbeats 2000000
namespace PP
open PySem L2
section
variable {F : Fm} {G : Gc} {E : XC} {A : AS} {H : Hp}
theorem FzL.atI {vs : List V} {ds : List D} {i : Int} {d : D} (l : FzL G A H vs ds) (h : L2.atI ds i = some d) : ∃ v, L2.atI vs i = some v ∧ Fz G A H v d := by
  unfold L2.atI at h ⊢
  rw [l.length]
  cases e : ixN ds.length i with
  | none => rw [e] at h; cases h
  | some j =>
    rw [e] at h
    exact l.getD (show ds[j]? = some d from h)
theorem keys_map : ∀ {xs : List D} {ks : List Key}, keysOf xs = some ks → xs.all isScalar = true ∧ xs.map toV = ks.map kV
  | [], ks, h => by
    cases h; exact ⟨rfl, rfl⟩
  | x :: xs, ks, h => by
    unfold keysOf at h
    cases e : keyOf x with
    | none => rw [e] at h; cases h
    | some k =>
      cases e2 : keysOf xs with
      | none => rw [e, e2] at h; cases h
      | some l =>
        rw [e, e2] at h
        cases h
        obtain ⟨h1, h2⟩ := keys_map e2
        exact ⟨by rw [List.all_cons, key_sc e, h1]; rfl, by rw [List.map_cons, List.map_cons, h2, kV_of e]⟩
theorem ops_idx : OpS F E qIdx (rIxA F.G.K) := by
  intro Z ow σ H s K x y vx vy Q R hx hy w k
  have dict : ∀ (ky : Key) (ds : List (Key × D)), x = .dct ds → keyOf y = some ky → (match look ds ky with
      | some x => K (.fz x) s
      | none => False) → rIxA F.G.K vx vy H Q := by
    intro ky ds ex ek w1
    subst ex
    obtain ⟨a, kvs, rfl, e2, ek2, l⟩ := hx
    have hv : vy = kV ky := by rw [view_sc (key_sc ek) hy]; exact kV_of ek
    rcases look_val ky ek2 l with ⟨_, q2⟩ | ⟨v, d, q1, q2, z⟩
    · rw [q2] at w1; exact w1.elim
    · rw [q2] at w1
      exact .inr ⟨a, v, rfl, .inl ⟨kvs, ky, e2, hv, q1.symm⟩, k _ _ _ _ _ w1 ⟨R, z⟩ (Eff.refl _ _ _ _)⟩
  cases x with
  | lst xs =>
    cases y with
    | int i =>
      obtain ⟨a, vs, rfl, e, l⟩ := hx
      cases view_int hy
      have w' : (match atI xs i with
        | some x => K (.fz x) s
        | none => False) := w
      cases q : atI xs i with
      | none => rw [q] at w'; exact w'.elim
      | some d =>
        rw [q] at w'
        obtain ⟨v, h1, h2⟩ := l.atI q
        exact .inl (.inl ⟨a, vs, i, v, rfl, rfl, SqL.of e, h1, k _ _ _ _ _ w' ⟨R, h2⟩ (Eff.refl _ _ _ _)⟩)
    | _ => exact w.elim
  | tup xs =>
    cases y with
    | int i =>
      obtain ⟨a, vs, rfl, e, l⟩ := view_tup hx
      cases view_int hy
      have w' : (match atI xs i with
        | some x => K (.fz x) s
        | none => False) := w
      cases q : atI xs i with
      | none => rw [q] at w'; exact w'.elim
      | some d =>
        rw [q] at w'
        obtain ⟨v, h1, h2⟩ := l.atI q
        exact .inl (.inr (.inl ⟨a, vs, i, v, rfl, rfl, e, h1, k _ _ _ _ _ w' ⟨R, h2⟩ (Eff.refl _ _ _ _)⟩))
    | _ => exact w.elim
  | str z =>
    cases y with
    | int i =>
      cases view_str hx; cases view_int hy
      have w' : z.length ≤ sizeLine ∧ (match atI z.cps.toList i with
        | some c => K (.fz (.str ⟨#[c]⟩)) s
        | none => False) := w
      obtain ⟨wl, w'⟩ := w'
      cases q : atI z.cps.toList i with
      | none => rw [q] at w'; exact w'.elim
      | some c =>
        rw [q] at w'
        exact .inl (.inr (.inr ⟨z, i, c, rfl, rfl, wl, q, k _ _ _ _ _ w' ⟨R, .str _⟩ (Eff.refl _ _ _ _)⟩))
    | _ => exact w.elim
  | dct kvs =>
    cases y with
    | int i => exact dict (.inl i) kvs rfl rfl w
    | str i => exact dict (.inr i) kvs rfl rfl w
    | _ => exact w.elim
  | dctT ds =>
    cases y with
    | tup ys =>
      cases (show Fz F.G (Av' Z ow) H vx (.dctT ds) from hx) with
      | dctT n e ek l =>
        cases (show Fz F.G (Av' Z ow) H vy (.tup ys) from hy) with
        | tup n2 e2 l2 =>
          have w' : (match keysOf ys with
            | some ks => (match look ds ks with
              | some x => K (.fz x) s
              | none => False)
            | none => False) := w
          cases q : keysOf ys with
          | none => rw [q] at w'; exact w'.elim
          | some ks =>
            rw [q] at w'
            dsimp only at w'
            obtain ⟨h1, h2⟩ := keys_map q
            have ev := fzl_sc h1 l2
            rw [h2] at ev
            rcases look_val ks ek l with ⟨_, q2⟩ | ⟨v, d, q1, q2, z⟩
            · rw [q2] at w'; exact w'.elim
            · rw [q2] at w'
              exact .inr ⟨_, v, rfl, .inr ⟨_, ks, _, e, rfl, by rw [e2, ev], q1.symm⟩, k _ _ _ _ _ w' ⟨R, z⟩ (Eff.refl _ _ _ _)⟩
    | _ => exact w.elim
  | _ => exact w.elim
theorem FzL.cut {vs : List V} {ds : List D} (l : FzL G A H vs ds) (lo hi : Option Int) : FzL G A H (cutV vs lo hi) (cutD ds lo hi) := by
  unfold cutV cutD
  rw [l.length]
  exact (l.drop _).take _
end
section
variable {X : Cx} {F : Fm} {E : XC} {Γ : Env} {a b c : Expr} {ia ib ic : Ex} {pos : Pos}
theorem sx_idx (g : Gd X F E) (ha : VX X F E Γ a ia) (hb : VX X F E Γ b ib) (hs : PlainIx b := by exact fun _ _ => rfl) : SX X F E Γ (.Subscript a b pos) (.idx ia ib) := PEimp (pe_ix (ix_all g.u1) ha hb hs) fun _ _ _ h => by rw [g.hK]; exact lr_bin ops_idx h
def LO (F : Fm) (E : XC) (f : M (Option Int)) : TO := fun σ H Q => ∃ Z ow s K, Rep F Z ow σ H s ∧ f s K E ∧ ∀ o s' H' ow', K o s' → Rep F Z ow' σ H' s' → Eff F Z ow H ow' H' → Q o H'
theorem POimp {e : Option Expr} {t t' : TO} (h : PO X e t) (i : ∀ σ H Q, t' σ H Q → t σ H Q) : PO X e t' := ⟨fun p s σ H Q I w => h.run p s σ H Q I (i σ H Q w)⟩
theorem ox_none : PO X none (LO F E (evO Γ none)) := POimp po_none fun σ H Q h => by
  obtain ⟨Z, ow, s, K, R, hf, hq⟩ := h
  exact hq none s H ow hf R (Eff.refl _ _ _ _)
theorem ox_some (ha : SX X F E Γ a ia) : PO X (some a) (LO F E (evO Γ (some ia))) := POimp (po_some ha) fun σ H Q h => by
  obtain ⟨Z, ow, s, K, R, hf, hq⟩ := h
  refine ⟨Z, ow, s, _, R, hf, fun r s1 v1 H1 ow1 k1 rr e1 => ?_⟩
  obtain ⟨R1, z⟩ := rr.fz' R
  cases hd : r.d with
  | int i =>
    rw [hd] at k1 z
    cases z
    exact ⟨i, rfl, hq (some i) s1 H1 ow1 k1 R1 e1⟩
  | _ => rw [hd] at k1; exact k1.elim
def rSlAll (K : PySem.W.Frag) : V → Option Int → Option Int → Hp → VK → Prop := fun x lo hi H Q => rSlL K x lo hi H Q ∨ rSlA K x lo hi H Q
theorem sl_all : SlR X (rSlAll X.K) := sl_list.or sl_tupA
theorem sx_sli (g : Gd X F E) {lo hi : Option Expr} {il ih : Option Ex} {p2 : Pos} (ha : VX X F E Γ a ia) (hl : PO X lo (LO F E (evO Γ il))) (hh : PO X hi (LO F E (evO Γ ih))) : SX X F E Γ (.Subscript a (.Slice lo hi none p2) pos) (.sli ia il ih) :=
  PEimp (pe_slice sl_all ha hl hh) fun σ H Q h => by
    rw [g.hK]
    obtain ⟨Z, ow, s, K, R, hf, hq⟩ := h
    refine ⟨Z, ow, s, _, R, hf, fun x s1 v1 H1 ow1 k1 R1 o1 e1 => ⟨Z, ow1, s1, _, R1, k1, fun l s2 H2 ow2 k2 R2 e2 => ⟨Z, ow2, s2, _, R2, k2, fun u s3 H3 ow3 k3 R3 e3 => ?_⟩⟩⟩
    obtain ⟨dx, w, hx⟩ := res_ok R3 ((o1.tr R1 e2).tr R2 e3) k3
    have e := (e1.trans e2).trans e3
    cases dx with
    | lst xs =>
      obtain ⟨p, vs, rfl, ep, l'⟩ := hx
      refine .inl ⟨p, vs, rfl, SqL.of ep, fun q hq' => ?_⟩
      exact hq _ _ _ _ _ w ((rr_newL R3 hq' (l'.cut l u)).back e.dm) (e.trans (Eff.new hq'))
    | tup xs =>
      have z : Fz F.G (Av' Z ow3) H3 v1 (.tup xs) := hx
      obtain ⟨p, vs, rfl, ep, l'⟩ := view_tup hx
      refine .inr ⟨p, vs, rfl, ep, fun hh => ?_, fun _ q hq' => ?_⟩
      · have eq : cutD xs l u = xs := by
          unfold cutD
          rw [← l'.length, hh.1, hh.2, List.drop_zero, Nat.sub_zero, l'.length, List.take_length]
        have w' : K (.fz (.tup (cutD xs l u))) s3 := w
        rw [eq] at w'
        exact hq _ _ _ _ _ w' ⟨R3, z⟩ e
      · exact hq _ _ _ _ _ w ((rr_newT R3 hq' (l'.cut l u)).back e.dm) (e.trans (Eff.new hq'))
    | _ => exact w.elim
theorem sx_neg (ha : SX X F E Γ a ia) : SX X F E Γ (.UnaryOp .USub a pos) (.neg ia) := PEimp (pe_un un_neg ha) fun σ H Q h => by
  obtain ⟨Z, ow, s, K, R, hf, hq⟩ := h
  refine ⟨Z, ow, s, _, R, hf, fun r s1 v1 H1 ow1 k1 rr e1 => ?_⟩
  obtain ⟨R1, z⟩ := rr.fz' R
  cases hd : r.d with
  | int i =>
    rw [hd] at k1 z
    cases z
    exact ⟨i, rfl, hq _ _ _ _ _ k1 (rr_sc R1 (.int (-i)) rfl |>.back e1.dm) e1⟩
  | _ => rw [hd] at k1; exact k1.elim
theorem sx_bi {f : Bi} {x : Str} {id : String} {r : List V → Hp → VK → Prop} {es : List Expr} {is : List Ex} {p : Pos} (hc : CallR X (.builtin id) r) (ho : CallS F E (qBi f) r) (hm : X.mg x = none) (hv : bootBuiltins x = some (.builtin id)) (ha : AVX X F E Γ (a :: es) is)
    (hg : Gl X x := by rfl) (hn : x ≠ "__name__" := by decide) (hdb : (x == ("__debug__" : Str)) = false := by decide)
    (he : starEach (a :: es) X.env = (false, eval a X.env) :: starEach es X.env := by rfl) (hpl : (backTo pos (starEach es X.env)).any (·.1) = false := by rfl) : SX X F E Γ (.Call (.Name x p) (a :: es) [] pos) (.bi f is) :=
  PEimp (pe_callB hc hg hm hv ha hn hdb he hpl) fun _ _ _ h => lr_call ho h
theorem sx_ty {f : Bi} {x : Str} {T : String} {r : List V → Hp → VK → Prop} {es : List Expr} {is : List Ex} {p : Pos} (hc : CallR X (.type T) r) (ho : CallS F E (qBi f) r) (hm : X.mg x = none) (hv : bootBuiltins x = some (.type T)) (ha : AVX X F E Γ (a :: es) is)
    (hg : Gl X x := by rfl) (hn : x ≠ "__name__" := by decide) (hdb : (x == ("__debug__" : Str)) = false := by decide)
    (he : starEach (a :: es) X.env = (false, eval a X.env) :: starEach es X.env := by rfl) (hpl : (backTo pos (starEach es X.env)).any (·.1) = false := by rfl) : SX X F E Γ (.Call (.Name x p) (a :: es) [] pos) (.bi f is) :=
  PEimp (pe_callTy hc hg hm hv ha hn hdb he hpl) fun _ _ _ h => lr_call ho h
theorem views1 {A : AS} {H : Hp} {vs : List V} {d : D} (h : Views F A H vs [d]) : ∃ v, vs = [v] ∧ View F A H v d := by
  cases h with
  | cons a b => cases b; exact ⟨_, rfl, a⟩
theorem asStrs_eq : ∀ {xs : List D} {ns : List Str}, asStrs xs = some ns → xs = ns.map D.str
  | [], _, h => by cases h; rfl
  | .str i :: xs, ns, h => by
    unfold asStrs at h
    obtain ⟨l, h1, rfl⟩ := Option.map_eq_some_iff.mp h
    rw [asStrs_eq h1]; rfl
  | .non :: _, _, h => by cases h
  | .bl _ :: _, _, h => by cases h
  | .int _ :: _, _, h => by cases h
  | .lst _ :: _, _, h => by cases h
  | .tup _ :: _, _, h => by cases h
  | .dct _ :: _, _, h => by cases h
  | .dctT _ :: _, _, h => by cases h
  | .obj _ _ :: _, _, h => by cases h
theorem asBls_eq : ∀ {xs : List D} {ns : List Bool}, asBls xs = some ns → xs = ns.map D.bl
  | [], _, h => by cases h; rfl
  | .bl i :: xs, ns, h => by
    unfold asBls at h
    obtain ⟨l, h1, rfl⟩ := Option.map_eq_some_iff.mp h
    rw [asBls_eq h1]; rfl
  | .non :: _, _, h => by cases h
  | .int _ :: _, _, h => by cases h
  | .str _ :: _, _, h => by cases h
  | .lst _ :: _, _, h => by cases h
  | .tup _ :: _, _, h => by cases h
  | .dct _ :: _, _, h => by cases h
  | .dctT _ :: _, _, h => by cases h
  | .obj _ _ :: _, _, h => by cases h
theorem fzl_strs {G : Gc} {A : AS} {H : Hp} {vs : List V} {ns : List Str} (l : FzL G A H vs (ns.map D.str)) : vs = ns.map V.str := by
  rw [fzl_sc (by rw [List.all_map, List.all_eq_true]; intro x _; rfl) l, List.map_map]; rfl
theorem fzl_bls {G : Gc} {A : AS} {H : Hp} {vs : List V} {ns : List Bool} (l : FzL G A H vs (ns.map D.bl)) : vs = ns.map V.bl := by
  rw [fzl_sc (by rw [List.all_map, List.all_eq_true]; intro x _; rfl) l, List.map_map]; rfl
theorem fzl_of_strs {G : Gc} {A : AS} {H : Hp} : ∀ ns : List Str, FzL G A H (ns.map V.str) (ns.map D.str)
  | [] => .nil
  | n :: ns => .cons (.str n) (fzl_of_strs ns)
end
end PP
set_option Elab.async false
set_option linter.all false
set_option maxRecDepth 100000
set_option maxHeartbeats 2000000
namespace PP
open PySem L2
section
variable {X : Cx}
theorem call_lenR : CallR X (.builtin "len") (fun xs H Q => ∃ a kvs, xs = [V.ref a] ∧ Rd H a (.dK kvs) ∧ Q (.int kvs.length) H) := by
  intro pins s σ H xs us Q I r h
  obtain ⟨a, kvs, rfl, ha, q⟩ := h
  obtain ⟨u, rfl, ru⟩ := vals1 r
  cases ru
  exact d_len I ha fun t s' I' => ⟨.int kvs.length, H, I', ⟨t, rfl⟩, q⟩
def rListR : List V → Hp → VK → Prop := fun xs H Q => ∃ p kvs, xs = [.ref p] ∧ Rd H p (.dK kvs) ∧ ∀ q, H q = none → Q (.ref q) (upd H q (.lst (kvs.map fun kv => kV kv.1)))
theorem call_listR (hc : X.calm = true) : CallR X (.type "list") rListR := by
  intro pins s σ H xs us Q I r h
  obtain ⟨p, kvs, e, hk, q⟩ := h
  subst e
  obtain ⟨u, eu, rx⟩ := vals1 r
  subst eu
  obtain rfl : u = Value.ref p := rx
  obtain ⟨z, lo, vs, rk, hd⟩ := dk_rd I.hok hk
  obtain ⟨ep, hat⟩ := hd.dictAt
  have hl : kvs.length = vs.length := Paired.length rk
  refine PySem.W.kdl_call (PySem.W.kdl_dict (knd := mixKind X.prog X.w) (kvs := vs) (ep := ep) lo) (I.ok.hd hc) hat (by rw [← hl]; exact z) fun h' tk acc' c' hkeep hS hacc => ?_
  refine ⟨.ref s.heap.objs.size, upd H s.heap.objs.size (.lst (kvs.map fun kv => kV kv.1)), I.laid hkeep (Nat.le_refl _) (show ObjOk X.prog X.w _ _ _ (.lst (kvs.map fun kv => kV kv.1)) from ⟨?_, acc'.toList, c', ?_, ?_⟩), rfl, q _ (I.hok.fresh (Nat.le_refl _))⟩
  · rw [List.length_map]; exact z
  · have el : acc'.toList.length = acc'.size := by simp
    refine vals_of_at (by rw [List.length_map, el, hacc.1, hl]) fun j x w h1 h2 => ?_
    obtain ⟨k, y, hky, hi⟩ := hacc.2 j w (by rw [← Array.getElem?_toList]; exact h2)
    have e1 : (kvs.map (·.1))[j]? = some k := by
      rw [KV.keys rk, List.getElem?_map, hky] <;> rfl
    have e2 : (kvs.map fun kv => kV kv.1)[j]? = some (kV k) := by
      have e3 : (kvs.map fun kv => kV kv.1) = (kvs.map (·.1)).map kV := by rw [List.map_map] <;> rfl
      rw [e3, List.getElem?_map, e1] <;> rfl
    rw [e2] at h1
    cases h1
    exact keyIs_rel hi
  · rw [Array.toArray_toList]; exact hS
end
section
open PyProof.Rows
theorem str_ext {a b : Str} (h : a.cps.toList = b.cps.toList) : a = b := by
  cases a; cases b; congr; exact Array.toList_inj.mp h
end
section
variable {X : Cx} {F : Fm} {E : XC} {Γ : Env} {a b c : Expr} {ia ib ic : Ex} {pos : Pos} {A : AS} {H : Hp}
def rLenB (K : PySem.W.Frag) : List V → Hp → VK → Prop := fun xs H Q => (∃ p ys, xs = [.ref p] ∧ (SqL K H p ys ∨ SqT K H p ys) ∧ Q (.int ys.length) H) ∨ (∃ z : Str, xs = [.str z] ∧ z.length ≤ sizeLine ∧ Q (.int z.length) H) ∨ (∃ a kvs, xs = [V.ref a] ∧ Rd H a (.dK kvs) ∧ Q (.int kvs.length) H)
theorem keys_len {κ : Type} {kvs : List (κ × V)} {ds : List (κ × D)} (h : kvs.map (·.1) = ds.map (·.1)) : kvs.length = ds.length := by
  have := congrArg List.length h; simpa using this
theorem cs_len : CallS F E (qBi .len) (rLenB F.G.K) := by
  intro Z ow σ H s K xs vs Q R hx w k
  match xs, hx, w with
  | [.lst xs], hx, w =>
    obtain ⟨v, rfl, h⟩ := views1 hx
    obtain ⟨a, us, rfl, e, l⟩ := h
    exact .inl ⟨a, us, rfl, .inl (SqL.of e), by rw [l.length]; exact k _ _ _ _ _ w (rr_sc R (.int xs.length) rfl) (Eff.refl _ _ _ _)⟩
  | [.tup xs], hx, w =>
    obtain ⟨v, rfl, h⟩ := views1 hx
    obtain ⟨a, us, rfl, e, l⟩ := view_tup h
    exact .inl ⟨a, us, rfl, .inr e, by rw [l.length]; exact k _ _ _ _ _ w (rr_sc R (.int xs.length) rfl) (Eff.refl _ _ _ _)⟩
  | [.str x], hx, w =>
    obtain ⟨v, rfl, h⟩ := views1 hx
    cases view_str h
    exact .inr (.inl ⟨x, rfl, w.1, k _ _ _ _ _ w.2 (rr_sc R (.int x.length) rfl) (Eff.refl _ _ _ _)⟩)
  | [.dct ds], hx, w =>
    obtain ⟨v, rfl, h⟩ := views1 hx
    obtain ⟨a, kvs, rfl, e, ek, l⟩ := h
    exact .inr (.inr ⟨a, kvs, rfl, e, by rw [keys_len ek]; exact k _ _ _ _ _ w (rr_sc R (.int ds.length) rfl) (Eff.refl _ _ _ _)⟩)
theorem sx_len (g : Gd X F E) {p : Pos} (hm : X.mg "len" = none) (ha : AVX X F E Γ [a] [ia]) (hg : Gl X "len" := by rfl) (he : starEach [a] X.env = (false, eval a X.env) :: starEach [] X.env := by rfl) : SX X F E Γ (.Call (.Name "len" p) [a] [] pos) (.bi .len [ia]) :=
  sx_bi (r := rLenB F.G.K) (by rw [← g.hK]; exact call_len_seq.or (call_len_str.or call_lenR)) cs_len hm PySem.boot_len ha hg (by decide) (by decide) he rfl
def rListA (K : PySem.W.Frag) : List V → Hp → VK → Prop := fun xs H Q => (∃ p ys, xs = [.ref p] ∧ (SqL K H p ys ∨ SqT K H p ys) ∧ ∀ l, H l = none → Q (.ref l) (upd H l (.lst ys))) ∨ rListR xs H Q
theorem fzl_keys {G : Gc} {A : AS} {H : Hp} {kvs : List (Key × V)} : ∀ {ds : List (Key × D)}, kvs.map (·.1) = ds.map (·.1) → FzL G A H (kvs.map fun kv => kV kv.1) (ds.map fun kv => keyD kv.1) := by
  induction kvs with
  | nil =>
    intro ds h
    cases ds with
    | nil => exact .nil
    | cons _ _ => cases h
  | cons a kvs ih =>
    intro ds h
    cases ds with
    | nil => cases h
    | cons b ds =>
      rw [List.map_cons, List.map_cons, List.cons.injEq] at h
      rw [List.map_cons, List.map_cons]
      refine .cons ?_ (ih h.2)
      rw [h.1]
      cases b.1 with
      | inl i => exact .int i
      | inr x => exact .str x
theorem cs_list : CallS F E (qBi .list) (rListA F.G.K) := by
  intro Z ow σ H s K xs vs Q R hx w k
  match xs, hx, w with
  | [.lst xs], hx, w =>
    obtain ⟨v, rfl, h⟩ := views1 hx
    obtain ⟨a, us, rfl, e, l⟩ := h
    exact .inl ⟨a, us, rfl, .inl (SqL.of e), fun p hp => k _ _ _ _ _ w (rr_newL R hp l) (Eff.new hp)⟩
  | [.tup xs], hx, w =>
    obtain ⟨v, rfl, h⟩ := views1 hx
    obtain ⟨a, us, rfl, e, l⟩ := view_tup h
    exact .inl ⟨a, us, rfl, .inr e, fun p hp => k _ _ _ _ _ w (rr_newL R hp l) (Eff.new hp)⟩
  | [.dct ds], hx, w =>
    obtain ⟨v, rfl, h⟩ := views1 hx
    obtain ⟨a, kvs, rfl, e, ek, l⟩ := h
    exact .inr ⟨a, kvs, rfl, e, fun p hp => k _ _ _ _ _ w (rr_newL R hp (fzl_keys ek)) (Eff.new hp)⟩
theorem sx_list (g : Gd X F E) {p : Pos} (hm : X.mg "list" = none) (ha : AVX X F E Γ [a] [ia]) (hg : Gl X "list" := by rfl) (he : starEach [a] X.env = (false, eval a X.env) :: starEach [] X.env := by rfl) : SX X F E Γ (.Call (.Name "list" p) [a] [] pos) (.bi .list [ia]) :=
  sx_ty (r := rListA F.G.K) (by rw [← g.hK]; exact call_list_of.or (call_listR g.calm)) cs_list hm (by decide +kernel) ha hg (by decide) (by decide) he rfl
theorem cs_tuple : CallS F E (qBi .tuple) (fun xs H Q => ∃ p ys, xs = [.ref p] ∧ ((SqL F.G.K H p ys ∧ ∀ l, H l = none → Q (.ref l) (upd H l (.tup ys))) ∨ (SqT F.G.K H p ys ∧ Q (.ref p) H))) := by
  intro Z ow σ H s K xs vs Q R hx w k
  match xs, hx, w with
  | [.lst xs], hx, w =>
    obtain ⟨v, rfl, h⟩ := views1 hx
    obtain ⟨a, us, rfl, e, l⟩ := h
    exact ⟨a, us, rfl, .inl ⟨SqL.of e, fun p hp => k _ _ _ _ _ w (rr_newT R hp l) (Eff.new hp)⟩⟩
  | [.tup xs], hx, w =>
    obtain ⟨v, rfl, h⟩ := views1 hx
    have z : Fz F.G (Av' Z ow) H v (.tup xs) := h
    obtain ⟨a, us, rfl, e, l⟩ := view_tup h
    exact ⟨a, us, rfl, .inr ⟨e, k _ _ _ _ _ w ⟨R, z⟩ (Eff.refl _ _ _ _)⟩⟩
theorem sx_tuple (g : Gd X F E) {p : Pos} (hm : X.mg "tuple" = none) (ha : AVX X F E Γ [a] [ia]) (hg : Gl X "tuple" := by rfl) (he : starEach [a] X.env = (false, eval a X.env) :: starEach [] X.env := by rfl) : SX X F E Γ (.Call (.Name "tuple" p) [a] [] pos) (.bi .tuple [ia]) :=
  sx_ty (by rw [← g.hK]; exact call_tuple_of) cs_tuple hm (by decide +kernel) ha hg (by decide) (by decide) he rfl
theorem cs_all : CallS F E (qBi .all) (rAll F.G.K) := by
  intro Z ow σ H s K xs vs Q R hx w k
  match xs, hx, w with
  | [.lst xs], hx, w =>
    obtain ⟨v, rfl, h⟩ := views1 hx
    obtain ⟨a, us, rfl, e, l⟩ := h
    have w' : (match asBls xs with
      | some bs => K (.fz (.bl (bs.all id))) s
      | none => False) := w
    cases q : asBls xs with
    | none => rw [q] at w'; exact w'.elim
    | some bs =>
      rw [q] at w'
      rw [asBls_eq q] at l
      rw [fzl_bls l] at e
      exact ⟨a, bs, rfl, SqL.of e, k _ _ _ _ _ w' (rr_sc R (.bl _) rfl) (Eff.refl _ _ _ _)⟩
theorem FzL.zip : ∀ {us : List V} {xs : List D}, FzL F.G A H us xs → ∀ z ∈ us.zip xs, Fz F.G A H z.1 z.2
  | _, _, .nil, z, h => by simp at h
  | _, _, .cons a b, z, h => by
    rw [List.zip_cons_cons] at h
    rcases List.mem_cons.mp h with rfl | h
    · exact a
    · exact FzL.zip b z h
def rIntA : List V → Hp → VK → Prop := fun xs H Q => ((∃ i, xs = [.int i] ∧ Q (.int i) H) ∨ ∃ k : Bool, xs = [.bl k] ∧ Q (.int (if k then 1 else 0)) H) ∨ ∃ a n, xs = [.str a] ∧ PySem.intText? a = some n ∧ a.length ≤ 640 ∧ Q (.int n) H
theorem cs_int : CallS F E (qBi .int) rIntA := by
  intro Z ow σ H s K xs vs Q R hx w k
  match xs, hx, w with
  | [.int i], hx, w =>
    obtain ⟨v, rfl, h⟩ := views1 hx
    cases view_int h
    exact .inl (.inl ⟨i, rfl, k _ _ _ _ _ w (rr_sc R (.int _) rfl) (Eff.refl _ _ _ _)⟩)
  | [.bl i], hx, w =>
    obtain ⟨v, rfl, h⟩ := views1 hx
    cases view_bl h
    exact .inl (.inr ⟨i, rfl, k _ _ _ _ _ w (rr_sc R (.int _) rfl) (Eff.refl _ _ _ _)⟩)
  | [.str x], hx, w =>
    obtain ⟨v, rfl, h⟩ := views1 hx
    cases view_str h
    have w' : (match PySem.intText? x with
      | some n => x.length ≤ 640 ∧ K (.fz (.int n)) s
      | none => False) := w
    cases q : PySem.intText? x with
    | none => rw [q] at w'; exact w'.elim
    | some n =>
      rw [q] at w'
      exact .inr ⟨x, n, rfl, q, w'.1, k _ _ _ _ _ w'.2 (rr_sc R (.int _) rfl) (Eff.refl _ _ _ _)⟩
section
variable {es : List Expr} {is : List Ex} {p : Pos}
theorem sx_all (g : Gd X F E) (hm : X.mg "all" = none) (ha : AVX X F E Γ [a] [ia]) (hg : Gl X "all" := by rfl) (he : starEach [a] X.env = (false, eval a X.env) :: starEach [] X.env := by rfl) : SX X F E Γ (.Call (.Name "all" p) [a] [] pos) (.bi .all [ia]) :=
  sx_bi (r := rAll F.G.K) (by rw [← g.hK]; exact cr_all g.calm) cs_all hm (by decide +kernel) ha hg (by decide) (by decide) he rfl
theorem sx_toInt (g : Gd X F E) (hm : X.mg "int" = none) (ha : AVX X F E Γ [a] [ia]) (hg : Gl X "int" := by rfl) (he : starEach [a] X.env = (false, eval a X.env) :: starEach [] X.env := by rfl) : SX X F E Γ (.Call (.Name "int" p) [a] [] pos) (.bi .int [ia]) :=
  sx_ty (r := rIntA) (call_int1.or call_int_str) cs_int hm (by decide +kernel) ha hg (by decide) (by decide) he rfl
end
theorem kit_tab : ∀ a ∈ kindsB, ∀ b ∈ kindsB, kitB a b = some (isTy (.b a) (.b b)) := by decide +kernel
theorem tyx_of {A : AS} {H : Hp} {v : V} {d : D} {K : PySem.W.Frag} (hKG : F.G.K = K) (h : View F A H v d) (hd : bltTy (tyD d) = true) : ∃ n, tyD d = .b n ∧ n ∈ kindsB ∧ TyX K H v (.type n) := by
  cases d with
  | non => cases view_non h; exact ⟨_, rfl, by decide, .base .non⟩
  | bl b => cases view_bl h; exact ⟨_, rfl, by decide, .base (.bl b)⟩
  | int b => cases view_int h; exact ⟨_, rfl, by decide, .base (.int b)⟩
  | str b => cases view_str h; exact ⟨_, rfl, by decide, .base (.str b)⟩
  | lst xs => obtain ⟨a, vs, rfl, e, l⟩ := h; exact ⟨_, rfl, by decide, .base (.lst e)⟩
  | tup xs =>
    cases (show Fz F.G A H v (.tup xs) from h) with
    | tup n e l => exact ⟨_, rfl, by decide, .base (.tup e)⟩
  | dct xs =>
    obtain ⟨a, vs, rfl, e, _, l⟩ := h
    rcases e with e | ⟨ob, e⟩
    · exact ⟨_, rfl, by decide, .base (.dK e)⟩
    · exact ⟨_, rfl, by decide, .fDict e⟩
  | kt xs =>
    cases (show Fz F.G A H v (.kt xs) from h) with
    | kt e l =>
      obtain ⟨o, its, n, e, c, _⟩ := e
      exact ⟨_, rfl, by decide, .kTuple (hKG ▸ e) c⟩
  | _ => cases hd
theorem sx_isi1 (g : Gd X F E) {T : String} {x : Str} {p pt : Pos} (hm : X.mg "isinstance" = none) (hmT : X.mg x = none) (hT : bootBuiltins x = some (.type T)) (hk : T ∈ kindsB) (ha : VX X F E Γ a ia) (hg : Gl X "isinstance" := by rfl) (hgT : Gl X x := by rfl)
    (hn : x ≠ "__name__" := by decide) (hd : (x == ("__debug__" : Str)) = false := by decide) (hs : starEach [a, .Name x pt] X.env = (false, eval a X.env) :: starEach [.Name x pt] X.env := by rfl) (hs2 : starEach [.Name x pt] X.env = (false, eval (.Name x pt) X.env) :: starEach [] X.env := by rfl)
    (hpl : (backTo pos (starEach [.Name x pt] X.env)).any (·.1) = false := by rfl) :
    SX X F E Γ (.Call (.Name "isinstance" p) [a, .Name x pt] [] pos) (.isi ia [.b T]) :=
  PEimp (pe_callB call_isi hg hm (by decide +kernel) (pa_cons ha (pa_cons (pe_bltn (v := .ty T) hgT hmT hT rfl hn hd) pa_nil hs2) hs) (by decide) (by decide) hs hpl) fun σ H Q h => by
    obtain ⟨Z, ow, s, K, R, hf, hq⟩ := h
    refine ⟨Z, ow, s, _, R, hf, fun r s1 v1 H1 ow1 k1 R1 o1 e1 => ?_⟩
    obtain ⟨d, w, hx⟩ := res_ok R1 o1 k1
    obtain ⟨n, e, hn, ty⟩ := tyx_of (K := X.K) g.hK.symm hx w.1.1
    have w2 := w.2
    rw [e] at w2
    refine ⟨v1, .ty T, .type n, .type T, _, rfl, .ty T, ty, kit_ty (kit_tab n hn T hk), ?_⟩
    have e3 : isTy (.b n) (.b T) = isAny (.b n) [.b T] := by simp [isAny]
    rw [e3]
    exact hq _ _ _ _ _ w2 (rr_sc R1 (.bl _) rfl |>.back e1.dm) e1
/-- isinstance(x, (S, T)) -/
theorem sx_isi2 (g : Gd X F E) {S T : String} {x y : Str} {p pt py px : Pos} {kk : Nat} (hm : X.mg "isinstance" = none) (hmS : X.mg x = none) (hS : bootBuiltins x = some (.type S)) (hkS : S ∈ kindsB) (hmT : X.mg y = none) (hT : bootBuiltins y = some (.type T)) (hkT : T ∈ kindsB) (ha : VX X F E Γ a ia) (hg : Gl X "isinstance" := by rfl) (hgS : Gl X x := by rfl) (hgT : Gl X y := by rfl)
    (hn : x ≠ "__name__" := by decide) (hd : (x == ("__debug__" : Str)) = false := by decide) (hn2 : y ≠ "__name__" := by decide) (hd2 : (y == ("__debug__" : Str)) = false := by decide)
    (hs : starEach [a, .Tuple [.Name x px, .Name y py] kk pt] X.env = (false, eval a X.env) :: starEach [.Tuple [.Name x px, .Name y py] kk pt] X.env := by rfl) (hs2 : starEach [.Tuple [.Name x px, .Name y py] kk pt] X.env = (false, eval (.Tuple [.Name x px, .Name y py] kk pt) X.env) :: starEach [] X.env := by rfl)
    (hpl : (backTo pos (starEach [.Tuple [.Name x px, .Name y py] kk pt] X.env)).any (·.1) = false := by rfl) :
    SX X F E Γ (.Call (.Name "isinstance" p) [a, .Tuple [.Name x px, .Name y py] kk pt] [] pos) (.isi ia [.b S, .b T]) :=
  PEimp (pe_callB call_isiT hg hm (by decide +kernel) (pa_cons ha (pa_cons (pe_tup (pa_cons (pe_bltn (v := .ty S) hgS hmS hS rfl hn hd) (pa_cons (pe_bltn (v := .ty T) hgT hmT hT rfl hn2 hd2) pa_nil))) pa_nil hs2) hs) (by decide) (by decide) hs hpl) fun σ H Q h => by
    obtain ⟨Z, ow, s, K, R, hf, hq⟩ := h
    refine ⟨Z, ow, s, _, R, hf, fun r s1 v1 H1 ow1 k1 R1 o1 e1 => ⟨(by show 2 ≤ sizeLine; decide), fun tp htp => ?_⟩⟩
    obtain ⟨d, w, hx⟩ := res_ok R1 o1 k1
    have hx2 : View F (Av' (add Z tp) ow1) (upd H1 tp (.tup [.ty S, .ty T])) v1 d := by
      cases d with
      | lst xs =>
        obtain ⟨a, vs, rfl, e, l⟩ := hx
        exact ⟨a, vs, rfl, by rw [upd_ne (ne_of_none e htp)]; exact e, l.tr (Keep.new (Z := Z) htp) fun q z => by rcases z with (z | rfl) | z <;> first | exact .inl (.inl z) | exact .inr htp | exact .inl (.inr z)⟩
      | dct xs =>
        obtain ⟨a, vs, rfl, e, ek, l⟩ := hx
        refine ⟨a, vs, rfl, ?_, ek, l.tr (Keep.new (Z := Z) htp) fun q z => by rcases z with (z | rfl) | z <;> first | exact .inl (.inl z) | exact .inr htp | exact .inl (.inr z)⟩
        rcases e with e | ⟨ob, e⟩
        · exact .inl (by rw [upd_ne (ne_of_none e htp)]; exact e)
        · exact .inr ⟨ob, by rw [upd_ne (ne_of_none e htp)]; exact e⟩
      | _ => exact Fz.tr (Keep.new (Z := Z) htp) (fun q z => by rcases z with (z | rfl) | z <;> first | exact .inl (.inl z) | exact .inr htp | exact .inl (.inr z)) hx
    obtain ⟨n, e, hn, ty⟩ := tyx_of (K := X.K) g.hK.symm hx2 w.1.1
    have w2 := w.2
    rw [e] at w2
    refine ⟨v1, tp, [.ty S, .ty T], .type n, [.type S, .type T], isAny (.b n) [.b S, .b T], rfl, upd_same, .cons (.ty S) (.cons (.ty T) .nil), ty, ?_, ?_⟩
    · refine kitAny_cons (kit_ty (kit_tab n hn S hkS)) (fun hb => kitAny_cons (kit_ty (kit_tab n hn T hkT)) (r := isAny (.b n) [.b S, .b T]) (fun hb2 => ?_) fun hb2 => ?_) fun hb => ?_
      · rw [kitAny_nil]; simp [isAny, hb, hb2]
      · simp [isAny, hb2]
      · simp [isAny, hb]
    · obtain ⟨nm, n0, nz⟩ := R1.new0 htp
      exact hq _ _ _ _ _ w2 (rr_sc (R1.alloc0 htp) (.bl _) rfl |>.back (e1.trans (Eff.new (F := F) (Z := Z) (ow := ow1) htp)).dm) (e1.trans (Eff.new htp))
end
end PP
set_option Elab.async false
set_option linter.all false
set_option maxRecDepth 100000
set_option maxHeartbeats 2000000
namespace PP
open PySem L2
structure SizeOk (K : PySem.W.Frag) (H : Hp) : Prop where
  l : ∀ a xs, SqL K H a xs → xs.length ≤ sizeLine
  t : ∀ a xs, SqT K H a xs → xs.length ≤ sizeLine
  d : ∀ a kvs, Rd H a (.dK kvs) → kvs.length ≤ sizeLine
  dt : ∀ a kvs, Rd H a (.dT kvs) → kvs.length ≤ sizeLine
section
variable {X : Cx}
theorem sizeOk {pins : List (Addr × Obj)} {σ : L2.St} {H : Hp} {s : Shared} (I : Inv X pins σ H s) : SizeOk X.K H :=
  ⟨fun a xs h => let ⟨_, _, _, z⟩ := I.list h; z, fun a xs h => let ⟨_, _, _, z⟩ := I.tuple h; z, fun a kvs h => (dk_rd I.hok h).1, fun a kvs h => (dt_rd I.hok h).1⟩
theorem pi_sz {tg e : Expr} {wi : TI} (h : PI X tg e wi) : PI X tg e (fun σ H R => wi σ H fun J H1 => SizeOk X.K H1 → R J H1) := ⟨fun pins s σ H R I w =>
  thn (h.run pins s σ H _ I w) fun v s1 hv => thn hv fun u s2 ⟨it, fp, tn, J, H', a, b, c, d, e, f⟩ => ⟨it, fp, tn, J, H', a, b, c, d, e, f (sizeOk b)⟩⟩
theorem PIimp {tg e : Expr} {t t' : TI} (h : PI X tg e t) (i : ∀ σ H R, t' σ H R → t σ H R) : PI X tg e t' := ⟨fun p s σ H R I w => h.run p s σ H R I (i σ H R w)⟩
def iAny (K : PySem.W.Frag) (te : TE) : TI := fun σ H R => te σ H fun x H1 => (∃ a xs, x = .ref a ∧ SqL K H1 a xs ∧ R (Itl K a) H1) ∨ (∃ a xs, x = .ref a ∧ SqT K H1 a xs ∧ R (Itt K a) H1) ∨ (∃ z, x = .str z ∧ R (Its z) H1) ∨
  (∃ d kvs, x = .ref d ∧ H1 d = some (.dK kvs) ∧ ∀ o, R (Itk d o kvs) (upd H1 d (.frz o (.dK kvs)))) ∨ (∃ d o kvs, x = .ref d ∧ H1 d = some (.frz o (.dK kvs)) ∧ R (Itk d o kvs) H1) ∨
  (∃ d kvs, x = .ref d ∧ H1 d = some (.dT kvs) ∧ ∀ o, R (Itkt d o kvs) (upd H1 d (.frz o (.dT kvs)))) ∨ (∃ d o kvs, x = .ref d ∧ H1 d = some (.frz o (.dT kvs)) ∧ R (Itkt d o kvs) H1)
theorem pi_any {tg e : Expr} {te : TE} (he : PE X e te) : PI X tg e (iAny X.K te) := by
  refine ⟨fun pins s σ H R I h => ?_⟩
  refine thn (he.run pins s σ H _ I h) fun v s1 ⟨x, H1, I1, r1, q1⟩ => ?_
  have lockK : ∀ (d : Addr) (o : Obj) (kvs : List (Key × V)) (H2 : Hp), Inv X pins σ H2 s1 → H2 d = some (.frz o (.dK kvs)) → R (Itk d o kvs) H2 → wpAny (model X.prog X.w) X.A (pyIter (.ref d)) (PIE X pins σ tg R) X.xe s1 := by
    intro d o kvs H2 I2 hd q
    obtain ⟨hs, hgd, hx, es, ep, vs, hdt, hsz, kv, hm⟩ := I2.frzK hd
    refine iter_keys hs hgd hx hdt (pi_one (tk := s1.toks) I2 _ (turn_keys _ hdt) ⟨_, Heap.get?_push_size _ rfl, rfl, ?_⟩ q)
    rw [hsz] <;> rfl
  have lockT : ∀ (d : Addr) (o : Obj) (kvs : List (List Key × V)) (H2 : Hp), Inv X pins σ H2 s1 → H2 d = some (.frz o (.dT kvs)) → R (Itkt d o kvs) H2 → wpAny (model X.prog X.w) X.A (pyIter (.ref d)) (PIE X pins σ tg R) X.xe s1 := by
    intro d o kvs H2 I2 hd q
    obtain ⟨hs, hgd, hx, es, ep, hdt, hsz, ent⟩ := I2.frzT hd
    refine iter_keys hs hgd hx hdt (pi_one (tk := s1.toks) I2 _ (turn_keysT _ hdt) ⟨_, Heap.get?_push_size _ rfl, rfl, ?_⟩ q)
    rw [hsz] <;> rfl
  rcases q1 with ⟨a, xs, e, hq, q⟩ | ⟨a, xs, e, hq, q⟩ | ⟨z, e, q⟩ | ⟨d, kvs, e, hd, q⟩ | ⟨d, o, kvs, e, hd, q⟩ | ⟨d, kvs, e, hd, q⟩ | ⟨d, o, kvs, e, hd, q⟩
  · subst e
    cases r1
    obtain ⟨its, rv, p, hz⟩ := I1.list hq
    refine wpAny_pyIter_list p.isList ?_
    refine ⟨s1.heap.objs.size, [s1.heap.objs.size], _, _, H1, rfl, I1.kept (t' := s1.toks) fun b o e => Heap.get?_push_of_some _ e, turn_list a _, ⟨_, Heap.get?_push_size _ rfl, rfl, rfl⟩, fun b hb => ?_, q⟩
    have e : b = s1.heap.objs.size := by simpa using hb
    subst e
    exact I1.fpOk (Nat.le_refl _) (I1.hok.fresh (Nat.le_refl _))
  · subst e
    cases r1
    obtain ⟨its, rv, p, hz⟩ := I1.tuple hq
    refine wpAny_pyIter_tuple (show s1.heap.IsTuple a its.toArray from p) ?_
    refine ⟨s1.heap.objs.size, [s1.heap.objs.size], _, _, H1, rfl, I1.kept (t' := s1.toks) fun b o e => Heap.get?_push_of_some _ e, turn_tuple a _, ⟨_, Heap.get?_push_size _ rfl, rfl, rfl⟩, fun b hb => ?_, q⟩
    have e : b = s1.heap.objs.size := by simpa using hb
    subst e
    exact I1.fpOk (Nat.le_refl _) (I1.hok.fresh (Nat.le_refl _))
  · subst e
    obtain ⟨t, rfl⟩ := r1
    cases ha : z.cps.all (· < 128)
    · exact wpAny_pyIter_wide ha (pi_one (tk := s1.toks) I1 _ (turn_str _ z t "str_iterator" (.inr rfl)) ⟨_, Heap.get?_push_size _ rfl, rfl, rfl⟩ q)
    · exact wpAny_pyIter_ascii ha (pi_one (tk := s1.toks) I1 _ (turn_str _ z t "str_ascii_iterator" (.inl rfl)) ⟨_, Heap.get?_push_size _ rfl, rfl, rfl⟩ q)
  · subst e
    cases r1
    obtain ⟨od, I2⟩ := I1.lock hd trivial
    exact lockK d od kvs _ I2 upd_same (q od)
  · subst e
    cases r1
    exact lockK d o kvs H1 I1 hd q
  · subst e
    cases r1
    obtain ⟨od, I2⟩ := I1.lock hd trivial
    exact lockT d od kvs _ I2 upd_same (q od)
  · subst e
    cases r1
    exact lockT d o kvs H1 I1 hd q
end
/-- J walks over the data xs, from the heap H on -/
structure Src (F : Fm) (Z : AS) (ow : Ow) (H : Hp) (J : It) (xs : List D) : Prop where
  len : xs.length ≤ sizeLine
  go : ∀ i ow1 H1, i < xs.length → Eff F Z ow H ow1 H1 → J.go i H1
  stop : ∀ ow1 H1, Eff F Z ow H ow1 H1 → J.stop xs.length H1
  yld : ∀ i d Y σ s ow1 H1 v H2, xs[i]? = some d → Eff F Z ow H ow1 H1 → (∀ a, Y a → Z a ∨ H a = none) → Rep F Y ow1 σ H1 s → J.yld i H1 v H2 → Rep F Y ow1 σ H2 s ∧ Eff F Y ow1 H1 ow1 H2 ∧ Fz F.G (Av' Y ow1) H2 v d
def LI (F : Fm) (E : XC) (f : M (List D)) : TI := fun σ H R => ∃ Z ow s K, Rep F Z ow σ H s ∧ f s K E ∧ ∀ xs s' J H' ow', K xs s' → Rep F Z ow' σ H' s' → Eff F Z ow H ow' H' → Src F Z ow' H' J xs → R J H'
section
variable {F : Fm} {E : XC} {Z : AS} {ow ow1 : Ow} {σ : L2.St} {H H1 : Hp} {s : S}
theorem Rep.at (R : Rep F Z ow σ H s) (e : Eff F Z ow H ow1 H1) {a : Addr} {o : HO} (h : H a = some o) (n : ¬ Av' Z ow a) (hl : ∀ o', Le o o' → o' = o) : H1 a = some o :=
  e.k.at h (fun z => n (z.elim (R.mdz a) fun q => .inr q)) hl
theorem Rep.fzlZ {Y : AS} (R : Rep F Z ow σ H s) (e : Eff F Z ow H ow1 H1) (y : ∀ a, Y a → Z a ∨ H a = none) {v : List V} {d : List D} (h : FzL F.G (Av' Z ow) H v d) : FzL F.G (Av' Y ow1) H1 v d :=
  h.tr (e.k.mono (fun a z => z.elim (R.mdz a) fun q => .inr q) fun _ z => z) fun a z => z.elim (fun z => (y a z).imp .inl id) fun ⟨i, q⟩ => (e.o i a q).imp .inr id
theorem src_list {a : Addr} {vs : List V} {xs : List D} (R : Rep F Z ow σ H s) (n : ¬ Av' Z ow a) (h : H a = some (.lst vs)) (l : FzL F.G (Av' Z ow) H vs xs) (hz : vs.length ≤ sizeLine) : Src F Z ow H (Itl F.G.K a) xs := by
  refine ⟨by rw [← l.length]; exact hz, fun i ow1 H1 hi e => ?_, fun ow1 H1 e => ?_, fun i d Y σ1 s1 ow1 H1 v H2 hd e hY R1 hy => ?_⟩
  · exact ⟨vs, vs[i]'(by rw [l.length]; exact hi), SqL.of (R.at e h n le_lst), by simp [l.length, hi]⟩
  · exact ⟨vs, SqL.of (R.at e h n le_lst), by rw [l.length]; exact Nat.le_refl _⟩
  · obtain ⟨rfl, hv⟩ := hy
    obtain ⟨v', hv', z⟩ := (R.fzlZ e hY l).getD hd
    have := hv vs (SqL.of (R.at e h n le_lst))
    rw [hv'] at this
    cases this
    exact ⟨R1, Eff.refl _ _ _ _, z⟩
theorem src_tup {a : Addr} {vs : List V} {xs : List D} (R : Rep F Z ow σ H s) (n : ¬ Av' Z ow a) (h : H a = some (.tup vs)) (l : FzL F.G (Av' Z ow) H vs xs) (hz : vs.length ≤ sizeLine) : Src F Z ow H (Itt F.G.K a) xs := by
  refine ⟨by rw [← l.length]; exact hz, fun i ow1 H1 hi e => ?_, fun ow1 H1 e => ?_, fun i d Y σ1 s1 ow1 H1 v H2 hd e hY R1 hy => ?_⟩
  · exact ⟨vs, vs[i]'(by rw [l.length]; exact hi), SqT.of (R.at e h n le_tup), by simp [l.length, hi]⟩
  · exact ⟨vs, SqT.of (R.at e h n le_tup), by rw [l.length]; exact Nat.le_refl _⟩
  · obtain ⟨rfl, hv⟩ := hy
    obtain ⟨v', hv', z⟩ := (R.fzlZ e hY l).getD hd
    have := hv vs (SqT.of (R.at e h n le_tup))
    rw [hv'] at this
    cases this
    exact ⟨R1, Eff.refl _ _ _ _, z⟩
theorem src_kt {a : Addr} {vs : List V} {xs : List D} (R : Rep F Z ow σ H s) (h : KTup F.G.K a vs) (l : FzL F.G (Av' Z ow) H vs xs) (hz : vs.length ≤ sizeLine) : Src F Z ow H (Itt F.G.K a) xs := by
  have st : ∀ {H1 : Hp}, SqT F.G.K H1 a vs := fun {H1} => .inr h
  refine ⟨by rw [← l.length]; exact hz, fun i ow1 H1 hi e => ?_, fun ow1 H1 e => ?_, fun i d Y σ1 s1 ow1 H1 v H2 hd e hY R1 hy => ?_⟩
  · exact ⟨vs, vs[i]'(by rw [l.length]; exact hi), st, by simp [l.length, hi]⟩
  · exact ⟨vs, st, by rw [l.length]; exact Nat.le_refl _⟩
  · obtain ⟨rfl, hv⟩ := hy
    obtain ⟨v', hv', z⟩ := (R.fzlZ e hY l).getD hd
    have := hv vs st
    rw [hv'] at this
    cases this
    exact ⟨R1, Eff.refl _ _ _ _, z⟩
theorem src_str {z : Str} (hz : z.length ≤ sizeLine) : Src F Z ow H (Its z) (z.cps.toList.map fun c => .str ⟨#[c]⟩) := by
  have el : (z.cps.toList.map fun c => D.str ⟨#[c]⟩).length = z.cps.size := by simp
  refine ⟨by rw [el]; exact hz, fun i ow1 H1 hi e => by rw [el] at hi; exact hi, fun ow1 H1 e => by rw [el]; exact Nat.le_refl _, fun i d Y σ1 s1 ow1 H1 v H2 hd e hY R1 hy => ?_⟩
  obtain ⟨rfl, c, hc, rfl⟩ := hy
  have hd' : d = .str ⟨#[c]⟩ := by
    rw [List.getElem?_map, Array.getElem?_toList, hc] at hd
    exact (Option.some.inj hd).symm
  subst hd'
  exact ⟨R1, Eff.refl _ _ _ _, .str _⟩
theorem rangeD_len (lo : Int) : ∀ n : Nat, (rangeD lo n).length = n
  | 0 => rfl
  | n + 1 => by rw [rangeD, List.length_cons, rangeD_len (lo + 1) n]
theorem rangeD_get : ∀ (n i : Nat) (lo : Int) (d : D), (rangeD lo n)[i]? = some d → d = .int (lo + i)
  | 0, _, _, _, h => by simp [rangeD] at h
  | n + 1, 0, lo, d, h => by
    simp [rangeD] at h
    subst h; simp
  | n + 1, i + 1, lo, d, h => by
    have h' : (rangeD (lo + 1) n)[i]? = some d := by simpa [rangeD] using h
    rw [rangeD_get n i (lo + 1) d h']
    congr 1
    push_cast
    omega
theorem src_range {lo : Int} {n : Nat} (hz : n ≤ sizeLine) : Src F Z ow H (Itr lo n) (rangeD lo n) := by
  refine ⟨by rw [rangeD_len]; exact hz, fun i ow1 H1 hi e => by rw [rangeD_len] at hi; exact hi, fun ow1 H1 e => by rw [rangeD_len]; exact Nat.le_refl _, fun i d Y σ1 s1 ow1 H1 v H2 hd e hY R1 hy => ?_⟩
  obtain ⟨rfl, rfl⟩ := hy
  rw [rangeD_get n i lo d hd]
  exact ⟨R1, Eff.refl _ _ _ _, .int _⟩
theorem enumD_len : ∀ (xs : List D) (n : Nat), (enumD n xs).length = xs.length
  | [], _ => rfl
  | _ :: xs, n => by rw [enumD, List.length_cons, List.length_cons, enumD_len xs]
theorem enumD_get : ∀ (xs : List D) (n i : Nat) (d : D), (enumD n xs)[i]? = some d → ∃ x, xs[i]? = some x ∧ d = .tup [.int ((n + i : Nat) : Int), x]
  | [], _, _, _, h => by simp [enumD] at h
  | x :: xs, n, 0, d, h => by
    simp [enumD] at h
    subst h; exact ⟨x, rfl, by simp⟩
  | x :: xs, n, i + 1, d, h => by
    obtain ⟨y, h1, h2⟩ := enumD_get xs (n + 1) i d (by simpa [enumD] using h)
    exact ⟨y, by simpa using h1, by rw [h2]; congr 3; congr 1; omega⟩
/-- a new pair -/
theorem src_pair {T : Addr} {v w : V} {a b : D} (R : Rep F Z ow σ H s) (hT : H T = none) (ha : Fz F.G (Av' Z ow) H v a) (hb : Fz F.G (Av' Z ow) H w b) :
    Rep F Z ow σ (upd H T (.tup [v, w])) s ∧ Eff F Z ow H ow (upd H T (.tup [v, w])) ∧ Fz F.G (Av' Z ow) (upd H T (.tup [v, w])) (.ref T) (.tup [a, b]) := by
  have r := rr_newT R hT (.cons ha (.cons hb .nil))
  exact ⟨r.1, Eff.new hT, r.2⟩
theorem src_enum {a : Addr} {vs : List V} {xs : List D} (R : Rep F Z ow σ H s) (n : ¬ Av' Z ow a) (h : H a = some (.lst vs)) (l : FzL F.G (Av' Z ow) H vs xs) (hz : vs.length ≤ sizeLine) : Src F Z ow H (Ite F.G.K a) (enumD 0 xs) := by
  refine ⟨by rw [enumD_len, ← l.length]; exact hz, fun i ow1 H1 hi e => ?_, fun ow1 H1 e => ?_, fun i d Y σ1 s1 ow1 H1 v H2 hd e hY R1 hy => ?_⟩
  · rw [enumD_len] at hi
    exact ⟨vs, vs[i]'(by rw [l.length]; exact hi), SqL.of (R.at e h n le_lst), by simp [l.length, hi]⟩
  · exact ⟨vs, SqL.of (R.at e h n le_lst), by rw [enumD_len, l.length]; exact Nat.le_refl _⟩
  · obtain ⟨T, x, rfl, hT, rfl, hv⟩ := hy
    obtain ⟨y, hy, rfl⟩ := enumD_get xs 0 i d hd
    obtain ⟨v', hv', z⟩ := (R.fzlZ e hY l).getD hy
    have := hv vs (SqL.of (R.at e h n le_lst))
    rw [hv'] at this
    cases this
    rw [Nat.zero_add]
    exact src_pair R1 hT (.int _) z
end
end PP
set_option Elab.async false
set_option linter.all false
set_option maxRecDepth 100000
set_option maxHeartbeats 2000000
namespace PySem
theorem meets_enumerate_newTp (l : Addr) (items : Array Value) (n : Nat) (dct : Option Addr) (sl : Array (Option Value)) :
    Meets (Builtin.«enumerate.__new__» ⟨[.type "enumerate", .ref l], []⟩) (fun _ R s => s.heap.get? l = some { cls := .type "tuple", dict := dct, data := .seq items n, slots := sl } ∧
      R (.ok (.ret (.ref (s.heap.push { cls := .type "tuple_iterator", data := .fields #[.ref l, .int 0 0] }).objs.size)))
        { s with heap := (s.heap.push { cls := .type "tuple_iterator", data := .fields #[.ref l, .int 0 0] }).push { cls := .type "enumerate", data := .fields #[.none, .bool false, .ref s.heap.objs.size, rawInt 0, .none, .none] } }) :=
  .of_wp fun prog w A R s h => by
    obtain ⟨hp, g, d, tk, os⟩ := s; obtain ⟨hl, h⟩ := h
    have hsub := sub_enumerate
    have hL : Heap.IsTuple (Shared.heap ⟨hp, g, d, tk, os⟩) l items := ⟨_, hl, rfl, n, rfl⟩
    wp_walk using AutoSeq1.wpAny_loadPart' hl
    refine wpAny_stack_any fun st => wpAny_pure ?_
    split
    · rename_i c _ _ _ _ _
      cases (c == Value.type "enumerate")
      · wp_walk using AutoSeq1.wpAny_loadPart' hl, wpAny_pyIter_tuple hL
        exact ⟨_, rfl, h⟩
      · wp_walk using AutoSeq1.wpAny_loadPart' hl, wpAny_pyIter_tuple hL
        exact ⟨_, rfl, h⟩
    · wp_walk using AutoSeq1.wpAny_loadPart' hl, wpAny_pyIter_tuple hL
      exact ⟨_, rfl, h⟩
theorem call_enumerate_tuple {prog : Program} {w : World} {A : Around} {E : Value → Shared → Prop} {s : Shared} {l : Addr} {items : Array Value} {Q : Value → Shared → Prop} (hL : s.heap.IsTuple l items)
    (h : ∀ h', IsEnum h' (s.heap.objs.size + 1) s.heap.objs.size 0 .none → h'.IsTupleIter s.heap.objs.size l 0 → h'.objs.size = s.heap.objs.size + 2 →
      (∀ b o, s.heap.get? b = some o → h'.get? b = some o) → Q (.ref (s.heap.objs.size + 1)) { s with heap := h' }) :
    wpAny (model prog w) A (call (.type "enumerate") [.ref l]) Q E s := by
  obtain ⟨⟨c, dct, dt, sl⟩, hl, hc, n, hd⟩ := hL
  replace hc : c = .type "tuple" := hc
  replace hd : dt = .seq items n := hd
  subst hc hd
  refine callType_new F.called_enumerate (by decide) (F.typeCall_enumerate_1 _) (F.newCall_enumerate_1 _) (fun obj => F.args_object_init_2 obj _) F.entry_enumerate_new
    (meets_enumerate_newTp l items n dct sl) ⟨hl, ?_⟩
  have hz : (s.heap.push { cls := .type "tuple_iterator", data := .fields #[.ref l, .int 0 0] }).objs.size = s.heap.objs.size + 1 := Heap.size_push ..
  show _ ∧ _
  rw [hz]
  have he : IsEnum ((s.heap.push { cls := .type "tuple_iterator", data := .fields #[.ref l, .int 0 0] }).push
      { cls := .type "enumerate", data := .fields #[.none, .bool false, .ref s.heap.objs.size, rawInt 0, .none, .none] }) (s.heap.objs.size + 1) s.heap.objs.size 0 .none := by
    have := Heap.get?_push_size (s.heap.push { cls := .type "tuple_iterator", data := .fields #[.ref l, .int 0 0] })
      (o := { cls := .type "enumerate", data := .fields #[.none, .bool false, .ref s.heap.objs.size, rawInt 0, .none, .none] }) rfl
    rw [hz] at this; exact this
  refine ⟨⟨_, he, rfl⟩, h _ he ⟨_, Heap.get?_push_of_some _ (Heap.get?_push_size _ rfl), rfl, rfl⟩ (by rw [Heap.size_push, hz]) fun b o x => Heap.get?_push_of_some _ (Heap.get?_push_of_some _ x)⟩
end PySem
namespace PP
open PySem PySem.Spec PyProof.Rows L2
def IteT (K : PySem.W.Frag) (a : Addr) : It :=
  ⟨fun i H => ∃ (xs : List V) (x : V), SqT K H a xs ∧ xs[i]? = some x, fun i H v H' => ∃ T x, v = .ref T ∧ H T = none ∧ H' = upd H T (.tup [.int (i : Nat), x]) ∧ ∀ xs, SqT K H a xs → xs[i]? = some x, fun i H => ∃ xs : List V, SqT K H a xs ∧ xs.length = i⟩
theorem turn_enumT {P : Program} {w : World} {K : PySem.W.Frag} {elts : List Expr} {kk : Nat} {tpos : Pos} (a e it : Addr) :
    Turn P w K (.Tuple elts kk tpos) (IteT K a) [e, it] e (fun i h => (∃ old, IsEnum h e it ((i : Nat) : Int) old) ∧ h.IsTupleIter it a i ∧ e ≠ it ∧ a ≠ it ∧ a ≠ e) where
  mem := by simp
  obj := fun i h st b hb => by
    obtain ⟨⟨old, he⟩, ⟨o, ho, hc, hd⟩, _⟩ := st
    have e' : b = e ∨ b = it := by simpa using hb
    rcases e' with z | z
    · rw [z]; exact ⟨_, he, fun v q => nomatch q⟩
    · rw [z]; exact ⟨o, ho, fun v q => by rw [hd] at q; cases q⟩
  keep := fun i h h' st k => let ⟨⟨old, he⟩, hi, hne⟩ := st; ⟨⟨old, k e (by simp) _ he⟩, hi.at fun o q => k it (by simp) o q, hne⟩
  item := by
    intro X hP hw hK hc i pins s σ H E I hf st hg
    subst hP hw hK
    obtain ⟨⟨old, he⟩, hit, hne, hai, hae⟩ := st
    obtain ⟨xs, x, hq, hx⟩ := hg
    obtain ⟨its, rv, p, hz⟩ := I.tuple hq
    obtain ⟨u, hu, ru⟩ := rv.get hx
    have hel : e < s.heap.objs.size := Heap.lt_size he
    have hil : it < s.heap.objs.size := by obtain ⟨_, q, _⟩ := hit; exact Heap.lt_size q
    have hlt : i < its.toArray.size := by simpa using (List.getElem?_eq_some_iff.mp hu).1
    refine wpAny_pyNext_enum_itemD (Draws.tuple (show X.A.in1.handled = none from I.ok.hd hc) it a hai its.toArray) he ⟨hit, p⟩ hlt hne (by simp [hne, Ne.symm hae]) fun u' h' tk hu' ho hit' hT hsz hk => ?_
    have eu : u' = u := by
      have : its[i]? = some u' := by simpa using hu'
      rw [hu] at this; exact (Option.some.inj this).symm
    subst eu
    refine ⟨_, rfl, wpAny_letOwnedTupleGo_enum (s := { s with heap := h', toks := tk + 1 }) ho fun h'' he' sb => ?_⟩
    have hT2 : h''.get? s.heap.objs.size = some { cls := .type "tuple", data := .seq #[.int i tk, u'] } := (sb.2 _ (Nat.ne_of_gt hel)).trans hT
    have new : ObjOk X.prog X.w (upd H s.heap.objs.size (.tup [.int (i : Nat), x])) h'' s.heap.objs.size (.tup [.int (i : Nat), x]) :=
      ⟨by show 2 ≤ sizeLine; decide, [.int i tk, u'], .cons ⟨_, rfl⟩ (.cons ru .nil), ⟨_, hT2, rfl, _, rfl⟩⟩
    have I1 : Inv X pins σ (upd H s.heap.objs.size (.tup [.int (i : Nat), x])) { s with heap := h'', toks := tk + 1 } :=
      I.turnedNew (ch := [e, it]) (fun b ob hb q => (sb.2 b (fun z => hb (by simp [z]))).trans (hk b ob (fun z => hb (by simp [z])) (fun z => hb (by simp [z])) q)) hf (Nat.le_refl _) new
    refine ⟨.ref s.heap.objs.size, _, I1, rfl, ⟨_, x, rfl, I.hok.fresh (Nat.le_refl _), rfl, fun ys hy => by rw [I.tuple_inj hy hq]; exact hx⟩, ⟨⟨u', ?_⟩, hit'.1.at fun o q => (sb.2 it (Ne.symm hne)).trans q, hne, hai, hae⟩, fun b hb => ?_⟩
    · have e1 : ((i + 1 : Nat) : Int) = (i : Int) + 1 := by omega
      rw [e1]; exact he'
    · have hb' : b < s.heap.objs.size := by
        have e' : b = e ∨ b = it := by simpa using hb
        rcases e' with z | z
        · rw [z]; exact hel
        · rw [z]; exact hil
      rw [upd_ne (Nat.ne_of_lt hb')]
      exact (hf b hb).1
  done := by
    intro X hP hw hK hc i pins s σ H E I hf st hg
    subst hP hw hK
    obtain ⟨⟨old, he⟩, hit, hne, hai, hae⟩ := st
    obtain ⟨xs, hq, hx⟩ := hg
    obtain ⟨its, rv, p, hz⟩ := I.tuple hq
    obtain ⟨f0, f1, f2, f3, f4, f5⟩ := hf it (by simp)
    have hl : its.toArray.size = i := by simp [← hx, rv.length]
    subst hl
    exact wpAny_pyNext_enum_endD (Draws.tuple (show X.A.in1.handled = none from I.ok.hd hc) it a hai its.toArray) he ⟨hit, p⟩ fun h' eb => ⟨rfl, I.turned (t' := s.toks) (fun b o hb q => eb b o hb q) f0 f1 f3 f4 f5⟩
  self := fun A i s Q E st h => let ⟨⟨_, he⟩, _⟩ := st; wpAny_pyIter_enum he h
def iEnumA (K : PySem.W.Frag) (ta : TA) : TI := fun σ H R => ta σ H fun vs H1 => (∃ a xs, vs = [.ref a] ∧ SqL K H1 a xs ∧ R (Ite K a) H1) ∨ (∃ a xs, vs = [.ref a] ∧ SqT K H1 a xs ∧ R (IteT K a) H1)
theorem pi_enumA {X : Cx} {e : Expr} {ta : TA} {p pos tpos : Pos} {elts : List Expr} {kk : Nat} (hg : Gl X "enumerate") (hm : X.mg "enumerate" = none) (ha : PA X [e] ta) (hs : starEach [e] X.env = [(false, eval e X.env)] := by rfl) :
    PI X (.Tuple elts kk tpos) (.Call (.Name "enumerate" p) [e] [] pos) (iEnumA X.K ta) := by
  refine ⟨fun pins s σ H R I h => ?_⟩
  refine Call_ (ld_blt I hg hm boot_enumerate (PyProof.Rows.callWith_type1 (thn (ha.run pos pins s σ H _ I h) fun us s1 ⟨vs, H1, I1, r1, q1⟩ => ?_) hs rfl))
  rcases q1 with ⟨a, xs, ex, hq, q⟩ | ⟨a, xs, ex, hq, q⟩
  · subst ex
    cases r1 with
    | cons r rr =>
      cases rr
      cases r
      obtain ⟨its, rv, p', hz⟩ := I1.list hq
      refine call_enumerate_list p'.isList fun h' he hit hsz hk => wpAny_pyIter_enum he ?_
      have I2 : Inv X pins σ H1 { s1 with heap := h' } := I1.kept (t' := s1.toks) hk
      refine ⟨s1.heap.objs.size + 1, [s1.heap.objs.size + 1, s1.heap.objs.size], _, _, H1, rfl, I2, turn_enum a (s1.heap.objs.size + 1) s1.heap.objs.size, ⟨⟨.none, he⟩, hit, Nat.succ_ne_self _⟩, fun b hb => ?_, q⟩
      have e' : b = s1.heap.objs.size + 1 ∨ b = s1.heap.objs.size := by simpa using hb
      have hle : s1.heap.objs.size ≤ b := by
        rcases e' with z | z
        · rw [z]; exact Nat.le_add_right _ _
        · rw [z]; exact Nat.le_refl _
      exact I1.fpOk hle (I1.hok.fresh hle)
  · subst ex
    cases r1 with
    | cons r rr =>
      cases rr
      cases r
      obtain ⟨its, rv, p', hz⟩ := I1.tuple hq
      have hal : a < s1.heap.objs.size := by obtain ⟨o, ho, _⟩ := p'; exact Heap.lt_size ho
      refine call_enumerate_tuple (show s1.heap.IsTuple a its.toArray from p') fun h' he hit hsz hk => wpAny_pyIter_enum he ?_
      have I2 : Inv X pins σ H1 { s1 with heap := h' } := I1.kept (t' := s1.toks) hk
      refine ⟨s1.heap.objs.size + 1, [s1.heap.objs.size + 1, s1.heap.objs.size], _, _, H1, rfl, I2, turn_enumT a (s1.heap.objs.size + 1) s1.heap.objs.size, ⟨⟨.none, he⟩, hit, Nat.succ_ne_self _, Nat.ne_of_lt hal, Nat.ne_of_lt (Nat.lt_succ_of_lt hal)⟩, fun b hb => ?_, q⟩
      have e' : b = s1.heap.objs.size + 1 ∨ b = s1.heap.objs.size := by simpa using hb
      have hle : s1.heap.objs.size ≤ b := by
        rcases e' with z | z
        · rw [z]; exact Nat.le_add_right _ _
        · rw [z]; exact Nat.le_refl _
      exact I1.fpOk hle (I1.hok.fresh hle)
end PP
set_option Elab.async false
set_option linter.all false
set_option maxRecDepth 100000
set_option maxHeartbeats 2000000
namespace PP
open PySem L2
section
variable {F : Fm} {E : XC} {Z : AS} {ow ow1 : Ow} {σ : L2.St} {H H1 : Hp} {s : S}
theorem keep_lock {A : AS} {d : Addr} {u u' : HO} (h : H d = some u) (l : Le u u') (n : ¬ Z d) : Keep A Z H (upd H d u') := fun a o e _ => by
  by_cases ha : a = d
  · subst ha
    rw [h] at e; cases e
    exact ⟨u', upd_same, l, fun z => absurd z n⟩
  · exact ⟨o, by rw [upd_ne ha]; exact e, .refl o, fun _ => rfl⟩
theorem Rep.lock {d : Addr} {u u' : HO} (R : Rep F Z ow σ H s) (h : H d = some u) (l : Le u u') (n : ¬ Av' Z ow d) : Rep F Z ow σ (upd H d u') s ∧ Eff F Z ow H ow (upd H d u') := by
  have nz : ¬ Z d := fun z => n (.inl z)
  have n0 : ¬ F.Z0 d ∨ F.md d := by
    by_cases q : F.Z0 d
    · exact (R.z0 d q).elim (fun z => absurd z nz) .inr
    · exact .inl q
  refine ⟨⟨R.keep.trans (fun a o e m => ?_), R.strm.keep (upd_ne fun e => nz (e ▸ R.zs _ (.inl rfl))) (upd_ne fun e => nz (e ▸ R.zs _ (.inr (.inl rfl)))) (by
    rcases l with rfl | ⟨_, _, rfl, rfl⟩ | ⟨_, _, rfl, rfl⟩
    · intro b o e _
      by_cases hb : b = d
      · rw [hb, upd_same, ← h, ← hb]; exact e
      · rw [upd_ne hb]; exact e
    · exact tbk_upd h nt_dK
    · exact tbk_upd h nt_dT), R.mds, R.zs, R.z0, fun a z => by rw [upd_ne (by rintro rfl; exact nz z)]; exact R.zin a z, R.mdz, R.oz, R.od, R.oin, R.len, fun i p e => ?_⟩, ⟨keep_lock h l nz, fun i p e => .inl ⟨i, e⟩, fun q => dm_upd q⟩⟩
  · by_cases ha : a = d
    · subst ha
      rw [h] at e; cases e
      exact ⟨u', upd_same, l, fun z => n0.elim (fun q => absurd z q) fun q => absurd q m⟩
    · exact ⟨o, by rw [upd_ne ha]; exact e, .refl o, fun _ => rfl⟩
  · obtain ⟨v, hv, ok⟩ := R.sl i p e
    exact ⟨v, hv, ok.tr (keep_lock (A := Av' Z ow) h l nz) (fun a z => .inl z) fun a e => upd_ne fun q => n (.inr ⟨i, q ▸ e⟩)⟩
theorem src_keys {d : Addr} {o : Obj} {kvs : List (Key × V)} {ds : List (Key × D)} (R : Rep F Z ow σ H s) (n : ¬ Av' Z ow d) (h : H d = some (.frz o (.dK kvs))) (ek : kvs.map (·.1) = ds.map (·.1)) (hz : kvs.length ≤ sizeLine) : Src F Z ow H (Itk d o kvs) (ds.map fun kv => keyD kv.1) := by
  have el : (ds.map fun kv => keyD kv.1).length = kvs.length := by rw [List.length_map, keys_len ek]
  have st : ∀ {ow1 H1}, Eff F Z ow H ow1 H1 → H1 d = some (.frz o (.dK kvs)) := fun e => R.at e h n fun o' l => by
    rcases l with l | ⟨_, _, q, _⟩ | ⟨_, _, q, _⟩
    · exact l
    · cases q
    · cases q
  refine ⟨by rw [el]; exact hz, fun i ow1 H1 hi e => ⟨st e, by rw [← el]; exact hi⟩, fun ow1 H1 e => ⟨st e, by rw [el]; exact Nat.le_refl _⟩, fun i dd Y σ1 s1 ow1 H1 v H2 hd e hY R1 hy => ?_⟩
  obtain ⟨rfl, k, w, hk, rfl⟩ := hy
  obtain ⟨v', hv', z⟩ := (fzl_keys (G := F.G) (A := Av' Y ow1) (H := H2) ek).getD hd
  rw [List.getElem?_map, hk] at hv'
  cases hv'
  exact ⟨R1, Eff.refl _ _ _ _, z⟩
theorem fzl_kds {G : Gc} {A : AS} {H : Hp} : ∀ ks : List Key, FzL G A H (ks.map kV) (ks.map keyD)
  | [] => .nil
  | .inl i :: ks => .cons (.int i) (fzl_kds ks)
  | .inr x :: ks => .cons (.str x) (fzl_kds ks)
theorem src_keysT {d : Addr} {o : Obj} {kvs : List (List Key × V)} {ds : List (List Key × D)} (R : Rep F Z ow σ H s) (n : ¬ Av' Z ow d) (h : H d = some (.frz o (.dT kvs))) (ek : kvs.map (·.1) = ds.map (·.1)) (hz : kvs.length ≤ sizeLine) : Src F Z ow H (Itkt d o kvs) (ds.map fun kv => .tup (kv.1.map keyD)) := by
  have el : (ds.map fun kv => D.tup (kv.1.map keyD)).length = kvs.length := by rw [List.length_map, keys_len ek]
  have st : ∀ {ow1 H1}, Eff F Z ow H ow1 H1 → H1 d = some (.frz o (.dT kvs)) := fun e => R.at e h n fun o' l => by
    rcases l with l | ⟨_, _, q, _⟩ | ⟨_, _, q, _⟩
    · exact l
    · cases q
    · cases q
  refine ⟨by rw [el]; exact hz, fun i ow1 H1 hi e => ⟨st e, by rw [← el]; exact hi⟩, fun ow1 H1 e => ⟨st e, by rw [el]; exact Nat.le_refl _⟩, fun i dd Y σ1 s1 ow1 H1 v H2 hd e hY R1 hy => ?_⟩
  obtain ⟨rfl, k, w, q, hk, rfl, hq⟩ := hy
  have hk1 : (ds.map (·.1))[i]? = some k := by rw [← ek, List.getElem?_map, hk]; rfl
  have e2 : (ds.map fun kv => D.tup (kv.1.map keyD)) = (ds.map (·.1)).map fun k => D.tup (k.map keyD) := by rw [List.map_map]; rfl
  rw [e2, List.getElem?_map, hk1] at hd
  cases hd
  exact ⟨R1, Eff.refl _ _ _ _, .tup (fun z => (R1.avT z).2 _ hq) hq (fzl_kds k)⟩
theorem fz_dctT {A : AS} {v : V} {ds : List (List Key × D)} (h : Fz F.G A H v (.dctT ds)) : ∃ a kvs, v = .ref a ∧ ¬ A a ∧ Rd H a (.dT kvs) ∧ kvs.map (·.1) = ds.map (·.1) ∧ FzL F.G A H (kvs.map (·.2)) (ds.map (·.2)) := by
  cases h with
  | dctT n e ek l => exact ⟨_, _, rfl, n, e, ek, l⟩
theorem fz_dct {A : AS} {v : V} {ds : List (Key × D)} (h : Fz F.G A H v (.dct ds)) : ∃ a kvs, v = .ref a ∧ ¬ A a ∧ Rd H a (.dK kvs) ∧ kvs.map (·.1) = ds.map (·.1) ∧ FzL F.G A H (kvs.map (·.2)) (ds.map (·.2)) := by
  cases h with
  | dct n e ek l => exact ⟨_, _, rfl, n, e, ek, l⟩
theorem fz_lst {A : AS} {v : V} {xs : List D} (h : Fz F.G A H v (.lst xs)) : ∃ a vs, v = .ref a ∧ ¬ A a ∧ H a = some (.lst vs) ∧ FzL F.G A H vs xs := by
  cases h with
  | lst n e l => exact ⟨_, _, rfl, n, e, l⟩
end
abbrev IX (X : Cx) (F : Fm) (E : XC) (Γ : Env) (tg e : Expr) (ir : Ex) : Prop := PI X tg e (LI F E (evP Γ ir).s)
section
variable {X : Cx} {F : Fm} {E : XC} {Γ : Env} {a b c tg : Expr} {ia ib ic : Ex} {pos : Pos}
theorem pi_dfS (g : Gd X F E) {f : M R} (ha : PE X a (LR F E f)) : PI X tg a (LI F E (dfS f)) := PIimp (pi_sz (pi_any ha)) fun σ H R' h => by
  obtain ⟨Z, ow, s, K, R, hf, hq⟩ := h
  refine ⟨Z, ow, s, _, R, hf, fun r s1 v1 H1 ow1 k1 rr e1 => ?_⟩
  obtain ⟨R1, z⟩ := rr.fz' R
  rw [g.hK]
  cases hd : r.d with
  | lst xs =>
    rw [hd] at k1 z
    obtain ⟨p, vs, rfl, n, e, l⟩ := fz_lst z
    exact .inl ⟨p, vs, rfl, SqL.of e, fun sz => hq xs s1 _ H1 ow1 k1 R1 e1 (src_list R1 n e l (sz.l p vs (SqL.of e)))⟩
  | tup xs =>
    rw [hd] at k1 z
    cases z with
    | tup n e l => exact .inr (.inl ⟨_, _, rfl, SqT.of e, fun sz => hq xs s1 _ H1 ow1 k1 R1 e1 (src_tup R1 n e l (sz.t _ _ (SqT.of e)))⟩)
  | kt xs =>
    rw [hd] at k1 z
    cases z with
    | kt e l =>
      rename_i p vs
      have e' : SqT F.G.K H1 p vs := .inr e
      exact .inr (.inl ⟨p, vs, rfl, e', fun sz => hq xs s1 _ H1 ow1 k1 R1 e1 (src_kt R1 e l (sz.t p vs e'))⟩)
  | str x =>
    rw [hd] at k1 z
    cases z
    exact .inr (.inr (.inl ⟨x, rfl, fun sz => hq _ s1 _ H1 ow1 k1.2 R1 e1 (src_str k1.1)⟩))
  | dct ds =>
    rw [hd] at k1 z
    obtain ⟨d, kvs, rfl, n, e, ek, l⟩ := fz_dct z
    rcases e with e | ⟨o, e⟩
    · refine .inr (.inr (.inr (.inl ⟨d, kvs, rfl, e, fun o sz => ?_⟩)))
      have q := R1.lock (u' := .frz o (.dK kvs)) e (.inr (.inl ⟨o, kvs, rfl, rfl⟩)) n
      exact hq _ s1 _ _ ow1 k1 q.1 (e1.trans q.2) (src_keys q.1 n upd_same ek (sz.d d kvs (.inr ⟨o, upd_same⟩)))
    · exact .inr (.inr (.inr (.inr (.inl ⟨d, o, kvs, rfl, e, fun sz => hq _ s1 _ _ ow1 k1 R1 e1 (src_keys R1 n e ek (sz.d d kvs (.inr ⟨o, e⟩)))⟩))))
  | dctT ds =>
    rw [hd] at k1 z
    obtain ⟨d, kvs, rfl, n, e, ek, l⟩ := fz_dctT z
    rcases e with e | ⟨o, e⟩
    · refine .inr (.inr (.inr (.inr (.inr (.inl ⟨d, kvs, rfl, e, fun o sz => ?_⟩)))))
      have q := R1.lock (u' := .frz o (.dT kvs)) e (.inr (.inr ⟨o, kvs, rfl, rfl⟩)) n
      exact hq _ s1 _ _ ow1 k1 q.1 (e1.trans q.2) (src_keysT q.1 n upd_same ek (sz.dt d kvs (.inr ⟨o, upd_same⟩)))
    · exact .inr (.inr (.inr (.inr (.inr (.inr ⟨d, o, kvs, rfl, e, fun sz => hq _ s1 _ _ ow1 k1 R1 e1 (src_keysT R1 n e ek (sz.dt d kvs (.inr ⟨o, e⟩)))⟩)))))
  | _ => rw [hd] at k1; exact k1.elim
def plainS : Ex → Bool
  | .and _ _ => false
  | .or _ _ => false
  | .not _ => false
  | .bi .range _ => false
  | .bi .enum _ => false
  | .bi .zip _ => false
  | .itO _ _ _ => false
  | _ => true
theorem evP_s : ∀ {ia : Ex}, plainS ia = true → (evP Γ ia).s = dfS (evP Γ ia).r := by
  intro ia h
  cases ia with
  | and => cases h
  | or => cases h
  | not => cases h
  | itO => cases h
  | pop i e => cases e <;> rfl
  | bi f es => cases f <;> first | rfl | cases h
  | _ => rfl
theorem ix (g : Gd X F E) (ha : SX X F E Γ a ia) (hp : plainS ia = true := by rfl) : IX X F E Γ tg a ia := by
  show PI X tg a (LI F E (evP Γ ia).s)
  rw [evP_s hp]
  exact pi_dfS g ha
theorem ix_range1 (g : Gd X F E) {p : Pos} (hm : X.mg "range" = none) (ha : SX X F E Γ a ia) (hg : Gl X "range" := by rfl) (hs : starEach [a] X.env = [(false, eval a X.env)] := by rfl) : IX X F E Γ tg (.Call (.Name "range" p) [a] [] pos) (.bi .range [ia]) :=
  PIimp (pi_range1 hg hm (pa_cons ha pa_nil hs) hs) fun σ H R' h => by
    obtain ⟨Z, ow, s, K, R, hf, hq⟩ := h
    refine ⟨Z, ow, s, _, R, hf, fun r s1 v1 H1 ow1 k1 rr e1 => ?_⟩
    obtain ⟨R1, z⟩ := rr.fz' R
    cases hd : r.d with
    | int i =>
      rw [hd] at k1 z
      cases z
      obtain ⟨⟨w1, w2⟩, w3⟩ := (show ((-(2 ^ 62) ≤ i ∧ i ≤ 16777216) ∧ K (rangeD 0 i.toNat) s1) from k1)
      exact ⟨i, rfl, w1, by omega, hq _ s1 _ H1 ow1 w3 R1 e1 (src_range (by show i.toNat ≤ 16777216; omega))⟩
    | _ => rw [hd] at k1; exact k1.elim
theorem src_enumT {Z : AS} {ow : Ow} {σ : L2.St} {H : Hp} {s : S} {a : Addr} {vs : List V} {xs : List D} (l : FzL F.G (Av' Z ow) H vs xs) (hs : ∀ {ow1 H1}, Eff F Z ow H ow1 H1 → SqT F.G.K H1 a vs) (R : Rep F Z ow σ H s) (hz : vs.length ≤ sizeLine) : Src F Z ow H (IteT F.G.K a) (enumD 0 xs) := by
  refine ⟨by rw [enumD_len, ← l.length]; exact hz, fun i ow1 H1 hi e => ?_, fun ow1 H1 e => ?_, fun i d Y σ1 s1 ow1 H1 v H2 hd e hY R1 hy => ?_⟩
  · rw [enumD_len] at hi
    exact ⟨vs, vs[i]'(by rw [l.length]; exact hi), hs e, by simp [l.length, hi]⟩
  · exact ⟨vs, hs e, by rw [enumD_len, l.length]⟩
  · obtain ⟨T, x, rfl, hT, rfl, hv⟩ := hy
    obtain ⟨y, hy, rfl⟩ := enumD_get xs 0 i d hd
    obtain ⟨v', hv', z⟩ := (R.fzlZ e hY l).getD hy
    have := hv vs (hs e)
    rw [hv'] at this
    cases this
    rw [Nat.zero_add]
    exact src_pair R1 hT (.int _) z
theorem ix_enum (g : Gd X F E) {p tpos : Pos} {elts : List Expr} {kk : Nat} (hm : X.mg "enumerate" = none) (ha : SX X F E Γ a ia) (hg : Gl X "enumerate" := by rfl) (hs : starEach [a] X.env = [(false, eval a X.env)] := by rfl) : IX X F E Γ (.Tuple elts kk tpos) (.Call (.Name "enumerate" p) [a] [] pos) (.bi .enum [ia]) :=
  PIimp (pi_sz (pi_enumA hg hm (pa_cons ha pa_nil hs) hs)) fun σ H R' h => by
    obtain ⟨Z, ow, s, K, R, hf, hq⟩ := h
    refine ⟨Z, ow, s, _, R, hf, fun r s1 v1 H1 ow1 k1 rr e1 => ?_⟩
    obtain ⟨R1, z⟩ := rr.fz' R
    cases hd : r.d with
    | lst xs =>
      rw [hd] at k1 z
      obtain ⟨p, vs, rfl, n, e, l⟩ := fz_lst z
      exact .inl ⟨p, vs, rfl, SqL.of e, fun sz => by rw [g.hK]; exact hq _ s1 _ H1 ow1 k1 R1 e1 (src_enum R1 n e l (sz.l p vs (SqL.of e)))⟩
    | tup xs =>
      rw [hd] at k1 z
      cases z with
      | tup n e l =>
        rename_i p vs
        exact .inr ⟨p, vs, rfl, SqT.of e, fun sz => by rw [g.hK]; exact hq _ s1 _ H1 ow1 k1 R1 e1 (src_enumT l (fun e2 => SqT.of (R1.at e2 e n le_tup)) R1 (sz.t p vs (SqT.of e)))⟩
    | kt xs =>
      rw [hd] at k1 z
      cases z with
      | kt e l =>
        rename_i p vs
        have e' : SqT F.G.K H1 p vs := .inr e
        exact .inr ⟨p, vs, rfl, by rw [g.hK]; exact e', fun sz => by rw [g.hK]; exact hq _ s1 _ H1 ow1 k1 R1 e1 (src_enumT l (fun _ => .inr e) R1 (sz.t p vs (by rw [g.hK]; exact e')))⟩
    | _ => rw [hd] at k1; exact k1.elim
end
/-- the reading g of a target keeps bindT's meaning; only its own slots change -/
def TgS (F : Fm) (t : Tg) (g : TG) : Prop := ∀ (Z : AS) (ow : Ow) (σ : L2.St) (H : Hp) (s : S) (e : XC) (v : V) (d : D) (K : Unit → S → Prop) (Q : L2.St → Hp → Prop), (∀ i ∈ t.ix, i < σ.length) → Rep F Z ow σ H s → Fz F.G (Av' Z ow) H v d → bindT t d s K e →
  (∀ s' σ' ow', K () s' → Rep F Z ow' σ' H s' → Eff F Z ow H ow' H → σ'.length = σ.length → (∀ j, j ∉ t.ix → σ'[j]? = σ[j]?) → Q σ' H) → g v σ H Q
def TgsS (F : Fm) (ts : List Tg) (g : TGs) : Prop := ∀ (Z : AS) (ow : Ow) (σ : L2.St) (H : Hp) (s : S) (e : XC) (v : List V) (d : List D) (K : Unit → S → Prop) (Q : L2.St → Hp → Prop), (∀ i ∈ tgIxs ts, i < σ.length) → Rep F Z ow σ H s → FzL F.G (Av' Z ow) H v d → bindTs ts d s K e →
  (∀ s' σ' ow', K () s' → Rep F Z ow' σ' H s' → Eff F Z ow H ow' H → σ'.length = σ.length → (∀ j, j ∉ tgIxs ts → σ'[j]? = σ[j]?) → Q σ' H) → g v σ H Q
section
variable {F : Fm}
theorem tgs_one (i : Nat) : TgS F (.one i) (gName i) := by
  intro Z ow σ H s e v d K Q hi R z w k
  obtain ⟨n, w⟩ := (show isIo (gt s.sl i) = false ∧ K () (setS i (.fz d) s) from w)
  obtain ⟨ow', R', ho⟩ := R.put (r := .fz d) (Hs := H) (i := i) ⟨R, z⟩ n (hi i (by simp [Tg.ix]))
  exact k _ _ ow' w R' ⟨Keep.refl _ _ _, ho, fun _ h => h⟩ (set_len _ _ _) fun j hj => set_out j (by simpa [Tg.ix] using hj)
theorem tgss_nil : TgsS F [] gNil := by
  intro Z ow σ H s e v d K Q hi R z w k
  cases z with
  | nil => exact ⟨rfl, k _ _ ow w R (Eff.refl _ _ _ _) rfl fun _ _ => rfl⟩
  | cons _ _ => exact w.elim
theorem tgss_cons {t : Tg} {ts : List Tg} {g : TG} {gs : TGs} (h : TgS F t g) (hs : TgsS F ts gs) : TgsS F (t :: ts) (gCons g gs) := by
  intro Z ow σ H s e v d K Q hi R z w k
  cases z with
  | nil => exact w.elim
  | cons z1 z2 =>
    refine ⟨_, _, rfl, h Z ow σ H s e _ _ _ _ (fun i q => hi i (by simp [tgIxs, q])) R z1 w fun s1 σ1 ow1 w1 R1 e1 l1 o1 => ?_⟩
    refine hs Z ow1 σ1 H s1 e _ _ _ _ (fun i q => by rw [l1]; exact hi i (by simp [tgIxs, q])) R1 (R.fzl e1 z2) w1 fun s2 σ2 ow2 w2 R2 e2 l2 o2 => ?_
    exact k s2 σ2 ow2 w2 R2 (e1.trans e2) (l2.trans l1) fun j hj => by
      have : j ∉ t.ix ∧ j ∉ tgIxs ts := by simpa [tgIxs] using hj
      rw [o2 j this.2, o1 j this.1]
theorem tgs_tup {ts : List Tg} {gs : TGs} {K0 : PySem.W.Frag} (hK : K0 = F.G.K) (hs : TgsS F ts gs) {n : Nat} (hn : ts.length = n) : TgS F (.tup ts) (gTup K0 n gs) := by
  intro Z ow σ H s e v d K Q hi R z w k
  cases z with
  | tup nn eh l =>
    rename_i xs
    have hl : xs.length = ts.length := by
      have aux : ∀ (ts : List Tg) (xs : List D) (s : S) (K : Unit → S → Prop), bindTs ts xs s K e → xs.length = ts.length := by
        intro ts
        induction ts with
        | nil => intro xs s K w; cases xs with
          | nil => rfl
          | cons _ _ => exact w.elim
        | cons t ts ih => intro xs s K w; cases xs with
          | nil => exact w.elim
          | cons x xs =>
            have : ∀ (t : Tg) (x : D) (s : S) (P : Prop), bindT t x s (fun _ _ => P) e → P := by
              intro t x s P
              have both : (∀ t : Tg, ∀ (x : D) (s : S) (P : Prop), bindT t x s (fun _ _ => P) e → P) := by
                intro t
                refine Tg.rec (motive_1 := fun t => ∀ (x : D) (s : S) (P : Prop), bindT t x s (fun _ _ => P) e → P) (motive_2 := fun ts => ∀ (xs : List D) (s : S) (P : Prop), bindTs ts xs s (fun _ _ => P) e → P) ?_ ?_ ?_ ?_ t
                · intro i x s P h; exact h.2
                · intro ts ih x s P h
                  cases x with
                  | tup xs => exact ih xs s P h
                  | _ => exact h.elim
                · intro xs s P h
                  cases xs with
                  | nil => exact h
                  | cons _ _ => exact h.elim
                · intro t ts ih1 ih2 xs s P h
                  cases xs with
                  | nil => exact h.elim
                  | cons x xs =>
                    refine ih1 x s P ?_
                    have mono : ∀ (t : Tg), ∀ (x : D) (s : S) (K K' : Unit → S → Prop), (∀ u s, K u s → K' u s) → bindT t x s K e → bindT t x s K' e := by
                      intro t
                      refine Tg.rec (motive_1 := fun t => ∀ (x : D) (s : S) (K K' : Unit → S → Prop), (∀ u s, K u s → K' u s) → bindT t x s K e → bindT t x s K' e) (motive_2 := fun ts => ∀ (xs : List D) (s : S) (K K' : Unit → S → Prop), (∀ u s, K u s → K' u s) → bindTs ts xs s K e → bindTs ts xs s K' e) ?_ ?_ ?_ ?_ t
                      · intro i x s K K' hk h; exact ⟨h.1, hk _ _ h.2⟩
                      · intro ts ih x s K K' hk h
                        cases x with
                        | tup xs => exact ih xs s K K' hk h
                        | _ => exact h.elim
                      · intro xs s K K' hk h
                        cases xs with
                        | nil => exact hk _ _ h
                        | cons _ _ => exact h.elim
                      · intro t ts ih1 ih2 xs s K K' hk h
                        cases xs with
                        | nil => exact h.elim
                        | cons x xs => exact ih1 x s _ _ (fun u s h => ih2 xs s K K' hk h) h
                    exact mono t x s _ _ (fun u s h => ih2 xs s P h) h
              exact both t x s P
            have mono : ∀ (t : Tg), ∀ (x : D) (s : S) (K K' : Unit → S → Prop), (∀ u s, K u s → K' u s) → bindT t x s K e → bindT t x s K' e := by
              intro t
              refine Tg.rec (motive_1 := fun t => ∀ (x : D) (s : S) (K K' : Unit → S → Prop), (∀ u s, K u s → K' u s) → bindT t x s K e → bindT t x s K' e) (motive_2 := fun ts => ∀ (xs : List D) (s : S) (K K' : Unit → S → Prop), (∀ u s, K u s → K' u s) → bindTs ts xs s K e → bindTs ts xs s K' e) ?_ ?_ ?_ ?_ t
              · intro i x s K K' hk h; exact ⟨h.1, hk _ _ h.2⟩
              · intro ts ih x s K K' hk h
                cases x with
                | tup xs => exact ih xs s K K' hk h
                | _ => exact h.elim
              · intro xs s K K' hk h
                cases xs with
                | nil => exact hk _ _ h
                | cons _ _ => exact h.elim
              · intro t ts ih1 ih2 xs s K K' hk h
                cases xs with
                | nil => exact h.elim
                | cons x xs => exact ih1 x s _ _ (fun u s h => ih2 xs s K K' hk h) h
            have q := this t x s (xs.length = ts.length) (mono t x s _ _ (fun u s h => ih xs s K h) w)
            rw [List.length_cons, List.length_cons, q]
      exact aux ts xs s K w
    refine ⟨_, _, rfl, by rw [hK]; exact SqT.of eh, by rw [l.length, hl, hn], hs Z ow σ H s e _ _ K Q hi R l w k⟩
  | _ => exact w.elim
end
end PP
set_option Elab.async false
set_option linter.all false
set_option maxRecDepth 100000
set_option maxHeartbeats 2000000
namespace PP
open PySem L2
theorem gt_wipe_in : ∀ {ix : List Nat} {l : List (Option P)} {i : Nat}, i ∈ ix → gt (wipeS ix l) i = none
  | v :: vs, l, i, h => by
    unfold wipeS
    by_cases e : i = v
    · subst e
      cases q : gt (pt (wipeS vs l) i none) i with
      | none => rfl
      | some p => cases gt_pt_none q
    · rw [gt_pt_ne e]
      exact gt_wipe_in (by rcases List.mem_cons.mp h with z | z; exact absurd z e; exact z)
theorem gt_wipe_out : ∀ {ix : List Nat} {l : List (Option P)} {i : Nat}, i ∉ ix → gt (wipeS ix l) i = gt l i
  | [], _, _, _ => rfl
  | v :: vs, l, i, h => by
    unfold wipeS
    have hh : i ≠ v ∧ i ∉ vs := by simpa using h
    rw [gt_pt_ne hh.1, gt_wipe_out hh.2]
theorem wipeS_len : ∀ (ix : List Nat) (l : List (Option P)), (wipeS ix l).length = l.length
  | [], _ => rfl
  | v :: vs, l => by unfold wipeS; rw [pt_len, wipeS_len vs l]
def wipeO (ix : List Nat) (ow : Ow) : Ow := fun i => if i ∈ ix then none else ow i
theorem wipeO_sub {ix : List Nat} {ow : Ow} {i : Nat} {p : Addr} (h : wipeO ix ow i = some p) : i ∉ ix ∧ ow i = some p := by
  unfold wipeO at h
  split at h
  · cases h
  · exact ⟨by assumption, h⟩
section
variable {F : Fm} {Z : AS} {ow ow1 : Ow} {σ σ' : L2.St} {H H1 : Hp} {s : S}
theorem Rep.wipe {ix : List Nat} (R : Rep F Z ow σ H s) (n : noIo ix s.sl = true) (hl : σ'.length = σ.length) (ho : ∀ j, j ∉ ix → σ'[j]? = σ[j]?) : Rep F Z (wipeO ix ow) σ' H { s with sl := wipeS ix s.sl } := by
  have sub : ∀ a, Av' Z (wipeO ix ow) a → Av' Z ow a := fun a z => z.imp id fun ⟨j, q⟩ => ⟨j, (wipeO_sub q).2⟩
  have nn : ∀ i ∈ ix, isIo (gt s.sl i) = false := fun i hi => by
    have := List.all_eq_true.mp n i hi
    simpa using this
  refine ⟨R.keep, R.strm, R.mds, R.zs, R.z0, R.zin, fun a z => ?_, fun j p e => R.oz j p (wipeO_sub e).2, fun j k p e1 e2 => R.od j k p (wipeO_sub e1).2 (wipeO_sub e2).2, fun j p e => ?_, ?_, fun j q e => ?_⟩
  · rcases R.mdz a z with q | ⟨j, q⟩
    · exact .inl q
    · by_cases hj : j ∈ ix
      · exact absurd z (R.noMd q (nn j hj))
      · exact .inr ⟨j, by unfold wipeO; rw [if_neg hj]; exact q⟩
  · obtain ⟨q, hq, hn⟩ := R.oin j p (wipeO_sub e).2
    exact ⟨q, by show gt (wipeS ix s.sl) j = _; rw [gt_wipe_out (wipeO_sub e).1]; exact hq, hn⟩
  · show (wipeS ix s.sl).length = _
    rw [wipeS_len, R.len, hl]
  · have e' : gt (wipeS ix s.sl) j = some q := e
    by_cases hj : j ∈ ix
    · rw [gt_wipe_in hj] at e'; cases e'
    · rw [gt_wipe_out hj] at e'
      obtain ⟨v, hv, ok⟩ := R.sl j q e'
      have eo : wipeO ix ow j = ow j := by unfold wipeO; rw [if_neg hj]
      exact ⟨v, by rw [ho j hj]; exact hv, by rw [eo]; exact ok.tr (Keep.refl (Av' Z ow) Z H) (fun a z => .inl (sub a z)) fun _ _ => rfl⟩
theorem Eff.wipe {ix : List Nat} (e : Eff F Z ow H ow1 H1) : Eff F Z ow H (wipeO ix ow1) H1 := ⟨e.k, fun i p h => e.o i p (wipeO_sub h).2, e.dm⟩
theorem Rep.atZ (R : Rep F Z ow σ H s) (e : Eff F Z ow H ow1 H1) {a : Addr} {o : HO} (z : Z a) (nm : ¬ F.md a) (h : H a = some o) : H1 a = some o :=
  e.k.atZ h (fun q => q.elim nm fun ⟨i, q⟩ => R.oz i a q z) z
/-- a thing that is held apart changes -/
theorem Rep.updZ {a : Addr} {o : HO} (R : Rep F Z ow σ H s) (z : Z a) (nm : ¬ F.md a) (h0 : F.H0 a = none) (ns : a ≠ F.T.s) (nl : a ≠ F.T.l) (nb : ∀ u, H a = some u → ¬ TbO u) (ho : ∀ vs, o ≠ .tup vs := by exact nofun) : Rep F Z ow σ (upd H a o) s := by
  have k : Keep (Av' Z ow) Z H (upd H a o) := fun b u e n => ⟨u, (upd_ne (fun q => n (.inl (by rw [q]; exact z)))).trans e, .refl u, fun _ => rfl⟩
  exact ⟨R.keep.upd (.inr h0), R.strm.keep (upd_ne ns.symm) (upd_ne nl.symm) (fun b u e z => by
      rw [upd_ne (fun q => nb u (by rw [← q]; exact e) z)]; exact e), R.mds, R.zs, R.z0, fun b q => by
    by_cases e : b = a
    · subst e; exact .of upd_same ho
    · rw [upd_ne e]; exact R.zin b q, R.mdz, R.oz, R.od, R.oin, R.len, fun i p e =>
    let ⟨v, hv, ok⟩ := R.sl i p e
    ⟨v, hv, ok.tr k (fun b q => .inl q) fun b e => upd_ne fun q => R.oz i b e (q ▸ z)⟩⟩
end
theorem wipe_in {σ : L2.St} {i : Nat} : ∀ {vs : List Nat}, i ∈ vs → i < σ.length → (L2.wipe σ vs)[i]? = some none
  | v :: vs, h, hl => by
    unfold L2.wipe
    by_cases e : v = i
    · subst e
      rw [List.getElem?_set_self (by rw [L2.wipe_length]; exact hl)]
    · rw [List.getElem?_set_ne e]
      exact wipe_in (by rcases List.mem_cons.mp h with z | z; exact absurd z.symm e; exact z) hl
theorem wipe_eq {σ σ2 : L2.St} {vs : List Nat} (hl : σ2.length = σ.length) (ho : ∀ j, j ∉ vs → σ2[j]? = σ[j]?) : L2.wipe σ2 vs = L2.wipe σ vs := by
  refine List.ext_getElem? fun i => ?_
  by_cases hi : i ∈ vs
  · by_cases h : i < σ.length
    · rw [wipe_in hi h, wipe_in hi (by rw [hl]; exact h)]
    · rw [List.getElem?_eq_none (by rw [L2.wipe_length]; omega), List.getElem?_eq_none (by rw [L2.wipe_length]; omega)]
  · rw [L2.wipe_out hi, L2.wipe_out hi, ho i hi]
theorem pe_len {X : Cx} {e : Expr} {t : TE} (h : PE X e t) : PE X e (fun σ H Q => σ.length = X.N.length → t σ H Q) := ⟨fun p s σ H Q I w => h.run p s σ H Q I (w I.len)⟩
theorem ps_len {X : Cx} {e : Stmt} {t : TS} (h : PS X e t) : PS X e (fun D σ H => σ.length = X.N.length → t D σ H) := ⟨fun p s σ H D I w => h.run p s σ H D I (w I.len)⟩
theorem PTsimp {X : Cx} {e : List Expr} {t t' : TT} (h : PTs X e t) (i : ∀ σ H Q, t' σ H Q → t σ H Q) : PTs X e t' := ⟨fun p s σ H Q I w => h.run p s σ H Q I (i σ H Q w)⟩
section
variable {X : Cx} {F : Fm} {E : XC} {Γ : Env} {pos : Pos}
theorem tsx_nil : PTs X [] (LT F E (evTs Γ [])) := PTsimp pts_nil fun σ H Q h => by
  obtain ⟨Z, ow, s, K, R, hf, hq⟩ := h
  exact hq true s H ow hf R (Eff.refl _ _ _ _)
theorem drop_get {α : Type} {xs : List α} {i : Nat} (h : i < xs.length) : xs.drop i = xs[i] :: xs.drop (i + 1) := List.drop_eq_getElem_cons h
theorem lr_lc {src : M (List D)} {t : Tg} {g : TG} {tests : M Bool} {elt : M R} {σ : L2.St} {H : Hp} {Q : VK} (hn : ∀ i ∈ t.ix, i < σ.length) (ht : TgS F t g)
    (h : LR F E (bnd src fun xs => bnd (lcGo t tests (toD elt) xs []) fun ys => wiped t.ix (.nl ys)) σ H Q) : tLc (LI F E src) g (LT F noX tests) (LR F noX elt) t.ix σ H Q := by
  obtain ⟨Z, ow, s, K, R, hf, hq⟩ := h
  refine ⟨Z, ow, s, _, R, hf, fun xs s1 J H1 ow1 k1 R1 e1 src D hD => ?_⟩
  obtain ⟨nmD, n0D, nzD⟩ := R1.new0 hD
  have RD := R1.alloc (o := .lst []) hD
  have zD : add Z D D := .inr rfl
  have nsD : D ≠ F.T.s := fun e => nmD (e ▸ R1.mds _ (.inl rfl))
  have nlD : D ≠ F.T.l := fun e => nmD (e ▸ R1.mds _ (.inr (.inl rfl)))
  let Kw : List PP.D → S → Prop := fun ys s2 => wiped t.ix (.nl ys) s2 K E
  let W0 : Nat → Hp → Prop := fun i H' => i ≤ xs.length ∧ ∃ σ2 ow2 s2 vs acc, σ2.length = σ.length ∧ (∀ j, j ∉ t.ix → σ2[j]? = σ[j]?) ∧ Rep F (add Z D) ow2 σ2 H' s2 ∧ Eff F Z ow1 H1 ow2 H' ∧ H' D = some (.lst vs) ∧ FzL F.G (Av' (add Z D) ow2) H' vs acc ∧ acc.length ≤ i ∧ lcGo t tests (toD elt) (xs.drop i) acc s2 Kw E
  refine ⟨fun i m H' => m = xs.length - i ∧ W0 i H', ⟨xs.length, by simp, Nat.zero_le _, σ, ow1, s1, [], [], rfl, fun _ _ => rfl, RD, Eff.new hD, upd_same, .nil, Nat.zero_le _, k1⟩, ?_⟩
  rintro i m H' ⟨rfl, hi, σ2, ow2, s2, vs, acc, hl2, ho2, R2, e2, hDv, lacc, hacc, w⟩
  by_cases hlt : i < xs.length
  · rw [drop_get hlt] at w
    obtain ⟨nio, w⟩ := w
    have Rw := R2.wipe (σ' := L2.wipe σ t.ix) nio (by rw [L2.wipe_length, hl2]) (fun j hj => by rw [L2.wipe_out hj, ho2 j hj])
    refine .inr ⟨src.go i ow2 H' hlt e2, W0 (i + 1), fun H'' p' => ⟨xs.length - (i + 1), by omega, rfl, p'⟩, fun x H3 hy => ?_⟩
    obtain ⟨R3, e3, z3⟩ := src.yld i xs[i] (add Z D) _ _ (wipeO t.ix ow2) H' x H3 (by simp [hlt]) e2.wipe (fun a z => z.imp id fun q => by rw [q]; exact hD) Rw hy
    refine ht (add Z D) _ _ H3 _ noX x _ _ _ (fun j hj => by rw [L2.wipe_length]; exact hn j hj) R3 z3 w fun s4 σ4 ow4 w4 R4 e4 l4 o4 => ?_
    have hl4 : σ4.length = σ.length := by rw [l4, L2.wipe_length]
    have ho4 : ∀ j, j ∉ t.ix → σ4[j]? = σ[j]? := fun j hj => by rw [o4 j hj, L2.wipe_out hj]
    refine ⟨wipe_eq (by rw [hl4]) ho4, ⟨add Z D, ow4, s4, _, R4, w4, fun b s5 H5 ow5 w5 R5 e5 => ?_⟩⟩
    have eZ : ∀ {a b : Ow} {h1 h2 : Hp}, Eff F (add Z D) a h1 b h2 → Eff F Z a h1 b h2 := fun e => e.mono fun _ z => .inl z
    have hD3 : H3 D = some (.lst vs) := Rw.atZ e3 zD nmD hDv
    have hD5 : H5 D = some (.lst vs) := R4.atZ e5 zD nmD hD3
    have eall : Eff F Z ow1 H1 ow5 H5 := ((e2.wipe.trans (eZ e3)).trans (eZ e4)).trans (eZ e5)
    have l2 : FzL F.G (Av' (add Z D) (wipeO t.ix ow2)) H' vs acc := lacc.mono fun a z => .inl (z.imp id fun ⟨j, q⟩ => ⟨j, (wipeO_sub q).2⟩)
    have l5 : FzL F.G (Av' (add Z D) ow5) H5 vs acc := R4.fzl e5 (R3.fzl e4 (Rw.fzl e3 l2))
    cases b with
    | false =>
      refine iteF ?_
      exact ⟨hlt, σ4, ow5, s5, vs, acc, hl4, ho4, R5, eall, hD5, l5, Nat.le_succ_of_le hacc, w5⟩
    | true =>
      refine iteT ?_
      refine ⟨add Z D, ow5, s5, _, R5, w5, fun r s6 v6 H6 ow6 w6 rr6 e6 => ?_⟩
      obtain ⟨R6, z6⟩ := rr6.fz' R5
      have hD6 : H6 D = some (.lst vs) := R5.atZ e6 zD nmD hD5
      have l6 := R5.fzl e6 l5
      have kup : Keep (Av' (add Z D) ow6) (add Z D) H6 (upd H6 D (.lst (vs ++ [v6]))) := fun b u e n => ⟨u, (upd_ne (fun q => n (.inl (by rw [q]; exact zD)))).trans e, .refl u, fun _ => rfl⟩
      refine ⟨vs, hD6, ?_, hlt, σ4, ow6, s6, vs ++ [v6], acc ++ [r.d], hl4, ho4, R6.updZ zD nmD n0D nsD nlD (fun u e => by rw [hD6] at e; cases e; exact nt_lst), ?_, upd_same, (l6.append (.one z6)).keep kup, by rw [List.length_append]; exact Nat.succ_le_succ hacc, w6⟩
      · rw [l6.length]
        exact Nat.lt_of_le_of_lt hacc (Nat.lt_of_lt_of_le hlt src.len)
      · have e61 := eall.trans (eZ e6)
        exact ⟨e61.k.upd (.inr hD), e61.o, fun p hp => dm_upd p (e61.dm p hp)⟩
  · have ei : i = xs.length := by omega
    subst ei
    rw [List.drop_length] at w
    obtain ⟨nio, w⟩ := (show noIo t.ix s2.sl = true ∧ K (.nl acc) { s2 with sl := wipeS t.ix s2.sl } from w)
    have Rw := R2.wipe (σ' := σ) nio hl2.symm (fun j hj => (ho2 j hj).symm)
    refine .inl ⟨src.stop ow2 H' e2, ?_⟩
    have hH : H D = none := by
      cases q : H D with
      | none => rfl
      | some o => exact absurd hD (e1.dm D (by rw [q]; exact nofun))
    exact hq (.nl acc) _ _ H' (wipeO t.ix ow2) w ⟨D, vs, rfl, hH, fun z => nzD (.inl z), nmD, n0D, Rw, hDv, lacc.mono fun a z => .inl (z.imp id fun ⟨j, q⟩ => ⟨j, (wipeO_sub q).2⟩)⟩ (e1.trans e2.wipe)
theorem ix_lt {N : List Str} {own : List (Str × Nat)} {sc scope : Scope} (ok : BlkOk N sc scope own) {ix : List Nat} (ho : own.map (·.2) = ix) : ∀ i ∈ ix, i < N.length := fun i hi => by
  rw [← ho] at hi
  obtain ⟨p, hp, rfl⟩ := List.mem_map.mp hi
  exact (List.getElem?_eq_some_iff.mp (ok.ix p hp)).1
theorem sx_lc (g : Gd X F E) {elt tg iter : Expr} {ifs : List Expr} {scope : Scope} {own : List (Str × Nat)} {isrc ielt : Ex} {iifs : List Ex} {t : Tg} {gr : TG} (hi : IX X F E Γ tg iter isrc) (ok : BlkOk X.N X.env.scope scope own) (ho : own.map (·.2) = t.ix) (hs : TgS F t gr)
    (hg : ∀ (s : Shared) (H : Hp) (C : Addr) (cl : List (Str × Addr)) (fp : List Addr), PG (X.blk s H scope (compEnvC scope cl C X.env) fp) tg gr)
    (ht : ∀ (s : Shared) (H : Hp) (C : Addr) (cl : List (Str × Addr)) (fp : List Addr), PTs (X.blk s H scope (compEnvC scope cl C X.env) fp) ifs (LT F noX (evTs Γ iifs)))
    (he : ∀ (s : Shared) (H : Hp) (C : Addr) (cl : List (Str × Addr)) (fp : List Addr), SX (X.blk s H scope (compEnvC scope cl C X.env) fp) F noX Γ elt ielt) (hf : ∀ x, foldedSetIterable iter X.env x = pure x := by intro _; rfl) :
    SX X F E Γ (.ListComp elt [⟨tg, iter, ifs, 0⟩] scope pos) (.lc isrc t iifs ielt) :=
  PEimp (pe_len (pe_lc g.calm g.nd hi ok hg ht he hf)) fun σ H Q h hl => by
    rw [ho]
    exact lr_lc (fun i hi => by rw [hl]; exact ix_lt ok ho i hi) hs h
end
end PP
set_option Elab.async false
set_option linter.all false
set_option maxRecDepth 100000
set_option maxHeartbeats 2000000
namespace PP
open PySem L2
structure CT (F : Fm) (L : Nat) (ow : Ow) (H : Hp) (n : En) (D : Ends) : Prop where
  nx : ∀ s' σ' H' ow', n.nx s' → Rep F F.Z0 ow' σ' H' s' → Eff F F.Z0 ow H ow' H' → σ'.length = L → D.nx σ' H'
  bk : ∀ s' σ' H' ow', n.bk s' → Rep F F.Z0 ow' σ' H' s' → Eff F F.Z0 ow H ow' H' → σ'.length = L → D.bk σ' H'
  ct : ∀ s' σ' H' ow', n.ct s' → Rep F F.Z0 ow' σ' H' s' → Eff F F.Z0 ow H ow' H' → σ'.length = L → D.ct σ' H'
  rt : ∀ r s' v σ' H' ow', n.rt r s' → RR F F.Z0 H ow' σ' H' s' v r → Eff F F.Z0 ow H ow' H' → D.rt v H'
def LS (F : Fm) (E : XC) (q : QS) : TS := fun D σ H => ∃ ow s n, Rep F F.Z0 ow σ H s ∧ q n s ∧ n.ex = E ∧ CT F σ.length ow H n D
section
variable {F : Fm} {E : XC} {ow ow' : Ow} {H H' : Hp} {n : En} {D : Ends}
theorem CT.shift {L : Nat} (c : CT F L ow H n D) (e : Eff F F.Z0 ow H ow' H') : CT F L ow' H' n D :=
  ⟨fun s σ H2 o w R e2 l => c.nx s σ H2 o w R (e.trans e2) l, fun s σ H2 o w R e2 l => c.bk s σ H2 o w R (e.trans e2) l, fun s σ H2 o w R e2 l => c.ct s σ H2 o w R (e.trans e2) l, fun r s v σ H2 o w R e2 => c.rt r s v σ H2 o w (R.back e.dm) (e.trans e2)⟩
end
abbrev SSX (X : Cx) (F : Fm) (E : XC) (Γ : Env) (st : Stmt) (ir : Sx) : Prop := PS X st (LS F E (exS Γ ir))
abbrev SBX (X : Cx) (F : Fm) (E : XC) (Γ : Env) (st : List Stmt) (ir : List Sx) : Prop := PSs X st (LS F E (exSs Γ ir))
def setAll (σ : L2.St) : List Nat → List V → L2.St
  | i :: is, v :: vs => (setAll σ is vs).set i (some v)
  | _, _ => σ
theorem setAll_len (σ : L2.St) : ∀ (is : List Nat) (vs : List V), (setAll σ is vs).length = σ.length
  | [], _ => rfl
  | _ :: _, [] => rfl
  | i :: is, v :: vs => by rw [setAll, List.length_set, setAll_len σ is vs]
def parR (F : Fm) (E : XC) : List (M R) → TA
  | [] => tNil
  | f :: fs => tCons (LR F E f) (parR F E fs)
section
variable {F : Fm} {E : XC}
theorem Eff.put {Z : AS} {ow ow2 ow3 : Ow} {H H2 : Hp} (e : Eff F Z ow H ow2 H2) (o3 : ∀ j p, ow3 j = some p → (∃ j', ow2 j' = some p) ∨ H p = none) : Eff F Z ow H ow3 H2 :=
  ⟨e.k, fun j p h => (o3 j p h).elim (fun ⟨j', q⟩ => e.o j' p q) .inr, e.dm⟩
theorem par_ok : ∀ {fs : List (M R)} {is : List Nat} {Z : AS} {ow : Ow} {σ : L2.St} {H : Hp} {s : S} {K : Unit → S → Prop} {Q : List V → Hp → Prop}, Rep F Z ow σ H s → parGo is fs s K E → (∀ i ∈ is, i < σ.length) →
    (∀ s' vs H' ow', vs.length = is.length → K () s' → Rep F Z ow' (setAll σ is vs) H' s' → Eff F Z ow H ow' H' → Q vs H') → parR F E fs σ H Q
  | [], [], Z, ow, σ, H, s, K, Q, R, w, _, k => k s [] H ow rfl w R (Eff.refl _ _ _ _)
  | [], _ :: _, _, _, _, _, _, _, _, _, w, _, _ => w.elim
  | _ :: _, [], _, _, _, _, _, _, _, _, w, _, _ => w.elim
  | f :: fs, i :: is, Z, ow, σ, H, s, K, Q, R, w, hi, k => by
    refine ⟨Z, ow, s, _, R, w, fun r s1 v1 H1 ow1 w1 rr1 e1 => ?_⟩
    have hil : ∀ vs, i < (setAll σ is vs).length := fun vs => by rw [setAll_len]; exact hi i (by simp)
    have hi' : ∀ j ∈ is, j < σ.length := fun j hj => hi j (by simp [hj])
    cases r with
    | fz d =>
      obtain ⟨R1, z1⟩ := rr1
      refine par_ok R1 w1 hi' fun s2 vs H2 ow2 hl w2 R2 e2 => ?_
      obtain ⟨n, w2⟩ := (show isIo (gt s2.sl i) = false ∧ K () (setS i (.fz d) s2) from w2)
      obtain ⟨ow3, R3, o3⟩ := R2.put (r := .fz d) (Hs := H) ⟨R2, R1.fz e2 z1⟩ n (hil vs)
      exact k _ (v1 :: vs) H2 ow3 (by simp [hl]) w2 R3 ((e1.trans e2).put o3)
    | nl xs =>
      obtain ⟨p, us, rfl, hs, nz, nm, h0, R1, ep, l1⟩ := rr1
      refine par_ok R1 w1 hi' fun s2 vs H2 ow2 hl w2 R2 e2 => ?_
      obtain ⟨n, w2⟩ := (show isIo (gt s2.sl i) = false ∧ K () (setS i (.nl xs) s2) from w2)
      have eZ : Eff F Z ow1 H1 ow2 H2 := e2.mono fun _ z => .inl z
      have R2' : Rep F Z ow2 (setAll σ is vs) H2 s2 := R2.unadd R.zs R.z0 nm
      obtain ⟨ow3, R3, o3⟩ := R2'.put (r := .nl xs) (Hs := H) ⟨p, us, rfl, hs, nz, nm, h0, R2, R1.atZ e2 (.inr rfl) nm ep, R1.fzl e2 l1⟩ n (hil vs)
      exact k _ (.ref p :: vs) H2 ow3 (by simp [hl]) w2 R3 ((e1.trans eZ).put o3)
    | nd xs =>
      obtain ⟨p, us, rfl, hs, nz, nm, h0, R1, ep, ek, l1⟩ := rr1
      refine par_ok R1 w1 hi' fun s2 vs H2 ow2 hl w2 R2 e2 => ?_
      obtain ⟨n, w2⟩ := (show isIo (gt s2.sl i) = false ∧ K () (setS i (.nd xs) s2) from w2)
      have eZ : Eff F Z ow1 H1 ow2 H2 := e2.mono fun _ z => .inl z
      have R2' : Rep F Z ow2 (setAll σ is vs) H2 s2 := R2.unadd R.zs R.z0 nm
      obtain ⟨ow3, R3, o3⟩ := R2'.put (r := .nd xs) (Hs := H) ⟨p, us, rfl, hs, nz, nm, h0, R2, R1.atZ e2 (.inr rfl) nm ep, ek, R1.fzl e2 l1⟩ n (hil vs)
      exact k _ (.ref p :: vs) H2 ow3 (by simp [hl]) w2 R3 ((e1.trans eZ).put o3)
end
section
variable {X : Cx} {F : Fm} {E : XC} {Γ : Env} {a b c tg : Expr} {ia ib ic : Ex} {pos : Pos}
theorem sb_nil : SBX X F E Γ [] [] := PSsimp pss_nil fun D σ H h => by
  obtain ⟨ow, s, n, R, w, _, c⟩ := h
  exact c.nx s σ H ow w R (Eff.refl _ _ _ _) rfl
theorem sb_cons {st : Stmt} {sts : List Stmt} {x : Sx} {xs : List Sx} (h : SSX X F E Γ st x) (hs : SBX X F E Γ sts xs) : SBX X F E Γ (st :: sts) (x :: xs) := PSsimp (pss_cons h hs) fun D σ H h => by
  obtain ⟨ow, s, n, R, w, he, c⟩ := h
  exact ⟨ow, s, _, R, w, he, ⟨fun s1 σ1 H1 ow1 w1 R1 e1 l1 => ⟨ow1, s1, n, R1, w1, he, l1 ▸ c.shift e1⟩, c.bk, c.ct, c.rt⟩⟩
theorem ss_ret (ha : SX X F E Γ a ia) : SSX X F E Γ (.Return (some a) pos) (.ret ia) := PSimp (ps_ret ha) fun D σ H h => by
  obtain ⟨ow, s, n, R, w, he, c⟩ := h
  subst he
  exact ⟨F.Z0, ow, s, _, R, w, fun r s1 v1 H1 ow1 w1 rr e1 => c.rt r s1 v1 σ H1 ow1 w1 rr e1⟩
theorem ss_if {xs ys : List Stmt} {ix iy : List Sx} (hc : TX X F E Γ c ic) (ha : SBX X F E Γ xs ix) (hb : SBX X F E Γ ys iy) : SSX X F E Γ (.If c xs ys pos) (.ite ic ix iy) := PSimp (ps_if hc ha hb) fun D σ H h => by
  obtain ⟨ow, s, n, R, w, he, ct⟩ := h
  subst he
  refine ⟨F.Z0, ow, s, _, R, w, fun b s1 H1 ow1 w1 R1 e1 => ?_⟩
  cases b with
  | true => exact iteT ⟨ow1, s1, n, R1, w1, rfl, ct.shift e1⟩
  | false => exact iteF ⟨ow1, s1, n, R1, w1, rfl, ct.shift e1⟩
theorem asg_ok {i : Nat} {f : M R} {D : Ends} {σ : L2.St} {H : Hp} (hi : i < σ.length) (h : LS F E (mS (bnd f (store i))) D σ H) : tAsg (LR F E f) (gName i) D σ H := by
  obtain ⟨ow, s, n, R, w, he, ct⟩ := h
  subst he
  refine ⟨F.Z0, ow, s, _, R, w, fun r s1 v1 H1 ow1 w1 rr e1 => ?_⟩
  obtain ⟨nio, w1⟩ := (show isIo (gt s1.sl i) = false ∧ n.nx (setS i r s1) from w1)
  obtain ⟨ow2, R2, o2⟩ := R.put rr nio hi
  exact ct.nx _ _ _ ow2 w1 R2 (e1.put o2) (set_len _ _ _)
theorem ss_asg (g : Gd X F E) (i : Nat) {x : Str} {pos' : Pos} (ha : SX X F E Γ a ia) (hi : X.N[i]? = some x := by rfl) (hx : Loc X.env.scope x := by first | exact Or.inl rfl | exact Or.inr rfl) (hs : swapsWith a (some (.Name x pos')) pos.line X.env = pure false := by rfl) (hf : X.fn x = true ∨ X.env.scope.names.lookup x = some .local := by first | exact .inl rfl | exact .inr rfl) :
    SSX X F E Γ (.Assign [.Name x pos'] a pos) (.asg i ia) := PSimp (ps_len (ps_set (i := i) g.nd hi hx ha hs hf)) fun D σ H h hl => asg_ok (by rw [hl]; exact (List.getElem?_eq_some_iff.mp hi).1) h
theorem ss_asgT (g : Gd X F E) {tg : Expr} {t : Tg} {gr : TG} (ha : SX X F E Γ a ia) (ht : TgS F t gr) (hg : PG X tg gr) (hx' : (t.ix.all fun i => decide (i < X.N.length)) = true := by rfl) (hs : swapsWithSole [tg] a pos.line X.env = pure false := by rfl) (hw : swappedStores [tg] a X.env = pure none := by rfl)
    (h1 : (assignEach [tg] X.env).map (·.2) = [assign tg X.env] := by rfl) : SSX X F E Γ (.Assign [tg] a pos) (.asgT t ia) := PSimp (ps_len (ps_asg ha hg hs hw h1)) fun D σ H h hl => by
  obtain ⟨ow, s, n, R, w, he, ct⟩ := h
  subst he
  refine ⟨F.Z0, ow, s, _, R, w, fun r s1 v1 H1 ow1 w1 rr e1 => ?_⟩
  obtain ⟨R1, z1⟩ := rr.fz' R
  exact ht F.Z0 ow1 σ H1 s1 n.ex v1 r.d _ _ (fun i hi => by rw [hl]; exact of_decide_eq_true (List.all_eq_true.mp hx' i hi)) R1 z1 w1 fun s2 σ2 ow2 w2 R2 e2 l2 _ => ct.nx s2 σ2 H1 ow2 w2 R2 (e1.trans e2) l2
theorem set_comm2 {σ : L2.St} {i j : Nat} {v w : V} (h : i ≠ j) : setAll σ [i, j] [v, w] = (σ.set i (some v)).set j (some w) := by
  show (σ.set j (some w)).set i (some v) = _
  rw [List.set_comm _ _ h.symm]
theorem ss_par2 (g : Gd X F E) (i j : Nat) {x y : Str} {px py pt : Pos} {kt k2 : Nat} {pt2 : Pos} (ha : SX X F E Γ a ia) (hb : SX X F E Γ b ib) (hij : i ≠ j := by decide) (hi : X.N[i]? = some x := by rfl) (hj : X.N[j]? = some y := by rfl) (hx : X.env.scope.names.lookup x = some .local := by rfl) (hy : X.env.scope.names.lookup y = some .local := by rfl)
    (hs1 : starEach [a, b] X.env = (false, eval a X.env) :: starEach [b] X.env := by rfl) (hs2 : starEach [b] X.env = (false, eval b X.env) :: starEach [] X.env := by rfl)
    (hw : swappedStores [.Tuple [.Name x px, .Name y py] kt pt] (.Tuple [a, b] k2 pt2) X.env = pure (some [x, y]) := by rfl)
    (hs : swapsWithSole [.Tuple [.Name x px, .Name y py] kt pt] (.Tuple [a, b] k2 pt2) pos.line X.env = pure false := by rfl) : SSX X F E Γ (.Assign [.Tuple [.Name x px, .Name y py] kt pt] (.Tuple [a, b] k2 pt2) pos) (.par [i, j] [ia, ib]) :=
  PSimp (ps_len (ps_par g.calm g.nd hi hj hij hx hy (pa_cons ha (pa_cons hb pa_nil hs2) hs1) hw hs)) fun D σ H h hl => by
    obtain ⟨ow, s, n, R, w, he, ct⟩ := h
    subst he
    have li : i < σ.length := by rw [hl]; exact (List.getElem?_eq_some_iff.mp hi).1
    have lj : j < σ.length := by rw [hl]; exact (List.getElem?_eq_some_iff.mp hj).1
    refine par_ok (fs := [(evP Γ ia).r, (evP Γ ib).r]) (is := [i, j]) R w (fun z hz => by rcases List.mem_cons.mp hz with rfl | hz; exact li; rw [List.mem_singleton.mp hz]; exact lj) fun s1 vs H1 ow1 hv w1 R1 e1 => ?_
    match vs, hv with
    | [v, u], _ => exact ⟨v, u, rfl, ct.nx s1 _ H1 ow1 w1 (by rw [← set_comm2 hij]; exact R1) e1 (by simp)⟩
theorem set_comm3 {σ : L2.St} {i j l : Nat} {v w u : V} (h : i ≠ j) (h2 : i ≠ l) (h3 : j ≠ l) : setAll σ [i, j, l] [v, w, u] = ((σ.set i (some v)).set j (some w)).set l (some u) := by
  show ((σ.set l (some u)).set j (some w)).set i (some v) = _
  rw [List.set_comm _ _ h3.symm, List.set_comm _ _ h2.symm, List.set_comm _ _ h.symm]
theorem ss_par3 (g : Gd X F E) (i j l : Nat) {x y z : Str} {px py pz pt : Pos} {kt k2 : Nat} {pt2 : Pos} (ha : SX X F E Γ a ia) (hb : SX X F E Γ b ib) (hc : SX X F E Γ c ic) (hij : i ≠ j := by decide) (hil : i ≠ l := by decide) (hjl : j ≠ l := by decide) (hi : X.N[i]? = some x := by rfl) (hj : X.N[j]? = some y := by rfl) (hl : X.N[l]? = some z := by rfl)
    (hx : X.env.scope.names.lookup x = some .local := by rfl) (hy : X.env.scope.names.lookup y = some .local := by rfl) (hz : X.env.scope.names.lookup z = some .local := by rfl)
    (hs1 : starEach [a, b, c] X.env = (false, eval a X.env) :: starEach [b, c] X.env := by rfl) (hs2 : starEach [b, c] X.env = (false, eval b X.env) :: starEach [c] X.env := by rfl) (hs3 : starEach [c] X.env = (false, eval c X.env) :: starEach [] X.env := by rfl)
    (hw : swappedStores [.Tuple [.Name x px, .Name y py, .Name z pz] kt pt] (.Tuple [a, b, c] k2 pt2) X.env = pure (some [x, y, z]) := by rfl)
    (hs : swapsWithSole [.Tuple [.Name x px, .Name y py, .Name z pz] kt pt] (.Tuple [a, b, c] k2 pt2) pos.line X.env = pure false := by rfl) : SSX X F E Γ (.Assign [.Tuple [.Name x px, .Name y py, .Name z pz] kt pt] (.Tuple [a, b, c] k2 pt2) pos) (.par [i, j, l] [ia, ib, ic]) :=
  PSimp (ps_len (ps_par3 g.calm g.nd hi hj hl hij hil hjl hx hy hz (pa_cons ha (pa_cons hb (pa_cons hc pa_nil hs3) hs2) hs1) hw hs)) fun D σ H h hl' => by
    obtain ⟨ow, s, n, R, w, he, ct⟩ := h
    subst he
    have li : i < σ.length := by rw [hl']; exact (List.getElem?_eq_some_iff.mp hi).1
    have lj : j < σ.length := by rw [hl']; exact (List.getElem?_eq_some_iff.mp hj).1
    have ll : l < σ.length := by rw [hl']; exact (List.getElem?_eq_some_iff.mp hl).1
    refine par_ok (fs := [(evP Γ ia).r, (evP Γ ib).r, (evP Γ ic).r]) (is := [i, j, l]) R w (fun z hz => by rcases List.mem_cons.mp hz with rfl | hz; exact li; rcases List.mem_cons.mp hz with rfl | hz; exact lj; rw [List.mem_singleton.mp hz]; exact ll) fun s1 vs H1 ow1 hv w1 R1 e1 => ?_
    match vs, hv with
    | [v, u, t], _ => exact ⟨v, u, t, rfl, ct.nx s1 _ H1 ow1 w1 (by rw [← set_comm3 hij hil hjl]; exact R1) e1 (by simp)⟩
end
end PP
set_option Elab.async false
set_option linter.all false
set_option maxRecDepth 100000
set_option maxHeartbeats 2000000
namespace PP
open PySem L2
section
variable {F : Fm} {E : XC} {Z : AS} {ow : Ow} {σ : L2.St} {H : Hp} {s : S}
theorem Rep.kOw (R : Rep F Z ow σ H s) {i : Nat} {a : Addr} {o : HO} (h : ow i = some a) : Keep (Av' Z ow) Z H (upd H a o) := fun b u e n =>
  ⟨u, (upd_ne (fun q => n (.inr ⟨i, by rw [q]; exact h⟩))).trans e, .refl u, fun _ => rfl⟩
/-- the thing in a slot of one's own changes -/
theorem Rep.mut {i : Nat} {a : Addr} {o : HO} {q : P} (R : Rep F Z ow σ H s) (ho : ow i = some a) (hm : F.md a ∨ F.H0 a = none) (hi : i < s.sl.length) (hv : σ[i]? = some (some (.ref a))) (hq : ∀ d, q ≠ .fz d) (ok : SlOk F (Av' Z ow) (some a) (upd H a o) (.ref a) q) :
    Rep F Z ow σ (upd H a o) { s with sl := pt s.sl i (some q) } ∧ Eff F Z ow H ow (upd H a o) := by
  have nz : ¬ Z a := R.oz i a ho
  have k : Keep (Av' Z ow) Z H (upd H a o) := R.kOw ho
  refine ⟨⟨R.keep.upd hm, R.strm.keep (upd_ne fun e => nz (e ▸ R.zs _ (.inl rfl))) (upd_ne fun e => nz (e ▸ R.zs _ (.inr (.inl rfl)))) (by
    obtain ⟨u, hu, nu⟩ := R.onTb ho
    exact tbk_upd hu nu), R.mds, R.zs, R.z0, fun b z => by rw [upd_ne (by rintro rfl; exact nz z)]; exact R.zin b z, R.mdz, R.oz, R.od, fun j p e => ?_, by show (pt s.sl i _).length = _; rw [pt_len]; exact R.len, fun j p e => ?_⟩, ⟨fun b u e n => ⟨u, (upd_ne (fun q => n (.inr ⟨i, by rw [q]; exact ho⟩))).trans e, .refl u, fun _ => rfl⟩, fun i p h => .inl ⟨i, h⟩, fun b h => dm_upd b h⟩⟩
  · by_cases hj : j = i
    · subst hj; exact ⟨q, gt_pt_same hi, hq⟩
    · obtain ⟨q', h1, h2⟩ := R.oin j p e
      exact ⟨q', by show gt (pt s.sl i _) j = _; rw [gt_pt_ne hj]; exact h1, h2⟩
  · have e' : gt (pt s.sl i (some q)) j = some p := e
    by_cases hj : j = i
    · subst hj
      cases gt_pt_none e'
      exact ⟨_, hv, by rw [ho]; exact ok⟩
    · rw [gt_pt_ne hj] at e'
      obtain ⟨v, h1, ok'⟩ := R.sl j p e'
      exact ⟨v, h1, ok'.tr k (fun b z => .inl z) fun b e => upd_ne fun q => hj (R.od j i b e (by rw [q]; exact ho))⟩
/-- a slot that holds a list of one's own: where it stands; how it is changed -/
theorem Rep.ownL {i : Nat} (R : Rep F Z ow σ H s) (h : (∃ xs, gt s.sl i = some (.own xs)) ∨ ∃ xs, gt s.sl i = some (.io xs)) : ∃ a vs xs, σ[i]? = some (some (.ref a)) ∧ H a = some (.lst vs) ∧ FzL F.G (Av' Z ow) H vs xs ∧ (gt s.sl i = some (.own xs) ∨ gt s.sl i = some (.io xs)) ∧
    ∀ (vs' : List V) (xs' : List D), FzL F.G (Av' Z ow) H vs' xs' → ∀ q, (gt s.sl i = some (.own xs) → q = .own xs') → (gt s.sl i = some (.io xs) → q = .io xs') → Rep F Z ow σ (upd H a (.lst vs')) { s with sl := pt s.sl i (some q) } ∧ Eff F Z ow H ow (upd H a (.lst vs')) := by
  rcases h with ⟨xs, h⟩ | ⟨xs, h⟩
  · obtain ⟨v, hv, ok⟩ := R.sl i _ h
    obtain ⟨a, vs, rfl, e1, e2, e3, e4, l⟩ := ok
    refine ⟨a, vs, xs, hv, e4, l, .inl h, fun vs' xs' l' q hq _ => ?_⟩
    cases hq h
    exact R.mut e1 (.inr e3) (gt_lt h) hv (fun d => nofun) ⟨a, vs', rfl, rfl, e2, e3, upd_same, l'.keep (R.kOw e1)⟩
  · obtain ⟨v, hv, ok⟩ := R.sl i _ h
    obtain ⟨a, vs, rfl, e1, e2, e4, l⟩ := ok
    refine ⟨a, vs, xs, hv, e4, l, .inr h, fun vs' xs' l' q _ hq => ?_⟩
    cases hq h
    exact R.mut e1 (.inl e2) (gt_lt h) hv (fun d => nofun) ⟨a, vs', rfl, rfl, e2, upd_same, l'.keep (R.kOw e1)⟩
theorem has_own {i : Nat} {K : Unit → S → Prop} (w : qHas i s K E) : ((∃ xs, gt s.sl i = some (.own xs)) ∨ ∃ xs, gt s.sl i = some (.io xs)) ∧ K () s := by
  have w' : (match gt s.sl i with
    | some (.own _) => K () s
    | some (.io _) => K () s
    | _ => False) := w
  cases h : gt s.sl i with
  | none => rw [h] at w'; exact w'.elim
  | some q =>
    rw [h] at w'
    cases q with
    | own xs => exact ⟨.inl ⟨xs, rfl⟩, w'⟩
    | io xs => exact ⟨.inr ⟨xs, rfl⟩, w'⟩
    | fz _ => exact w'.elim
    | ownd _ => exact w'.elim
    | stm => exact w'.elim
    | fn _ _ _ => exact w'.elim
    | ini _ _ => exact w'.elim
    | df _ => exact w'.elim
end
section
variable {X : Cx} {F : Fm} {E : XC} {Γ : Env} {a b c tg : Expr} {ia ib ic : Ex} {pos : Pos}
/-- xs.append(e), xs a slot -/
theorem ss_app (g : Gd X F E) (i : Nat) {x : Str} {px apos cpos : Pos} (ha : SX X F E Γ a ia) (hi : X.N[i]? = some x := by rfl) (hv : Vis X.env.scope x := by first | exact Or.inl rfl | exact Or.inr (Or.inl rfl) | exact Or.inr (Or.inr rfl)) (hd : (x == ("__debug__" : Str)) = false := by decide) (hcd : (x == ("__classdict__" : Str)) = false := by decide)
    (hbase : attributeBase (.Name x px) "append" X.env (eval (.Name x px) X.env) = eval (.Name x px) X.env := by rfl)
    (hfew : ((backTo cpos (starEach [a] X.env)).all (fun x => !x.1) && (backToKw cpos (keywordEach [] X.env)).all (fun x => x.1.isSome)
      && decide (([a] : List Expr).length + ([] : List Keyword).length + (if ([] : List Keyword).isEmpty then 0 else 1) < 30)) = true := by rfl)
    (hline : (apos.endLine == cpos.line) = true := by rfl) (hs : starEach [a] X.env = (false, eval a X.env) :: starEach [] X.env := by rfl) (hsw : swapsWith (.Call (.Attribute (.Name x px) "append" apos) [a] [] cpos) none pos.line X.env = pure false := by rfl) :
    SSX X F E Γ (.Expr (.Call (.Attribute (.Name x px) "append" apos) [a] [] cpos) pos) (.app i ia) :=
  PSimp (ps_expr (pe_bm PySem.F.plainAttrs_list PySem.F.slot_list_append PySem.F.type_list_append mt_append (pe_var hi hv hd hcd) (pa_cons ha pa_nil hs) hbase hfew hline hs rfl) hsw) fun D σ H h => by
    obtain ⟨ow, s, n, R, w, he, ct⟩ := h
    subst he
    obtain ⟨ho, w⟩ := has_own (show qHas i s (fun _ s => bnd (toD (evP Γ ia).r) (qApp i) s (fun _ s1 => n.nx s1) n.ex) n.ex from w)
    obtain ⟨p, vs, xs, hp, hH, l, hk, mu⟩ := R.ownL ho
    refine ⟨.ref p, hp, .inl ⟨rfl, _, SqL.of hH⟩, F.Z0, ow, s, _, R, w, fun r s1 v1 H1 ow1 w1 rr e1 => ?_⟩
    obtain ⟨R1, z1⟩ := rr.fz' R
    have w1' : (match gt s1.sl i with
      | some (.own xs) => xs.length < sizeLine ∧ n.nx { s1 with sl := pt s1.sl i (some (.own (xs ++ [r.d]))) }
      | some (.io xs) => xs.length < sizeLine ∧ n.nx { s1 with sl := pt s1.sl i (some (.io (xs ++ [r.d]))) }
      | _ => False) := w1
    have ho1 : (∃ xs, gt s1.sl i = some (.own xs)) ∨ ∃ xs, gt s1.sl i = some (.io xs) := by
      cases q : gt s1.sl i with
      | none => rw [q] at w1'; exact w1'.elim
      | some q' => cases q' with
        | own xs => exact .inl ⟨xs, rfl⟩
        | io xs => exact .inr ⟨xs, rfl⟩
        | fz _ => rw [q] at w1'; exact w1'.elim
        | ownd _ => rw [q] at w1'; exact w1'.elim
        | stm => rw [q] at w1'; exact w1'.elim
        | fn _ _ _ => rw [q] at w1'; exact w1'.elim
        | ini _ _ => rw [q] at w1'; exact w1'.elim
        | df _ => rw [q] at w1'; exact w1'.elim
    obtain ⟨p1, vs1, xs1, hp1, hH1, l1, hk1, mu1⟩ := R1.ownL ho1
    rw [hp] at hp1; cases hp1
    rcases hk1 with hk1 | hk1
    · rw [hk1] at w1'
      refine ⟨p, vs1, v1, rfl, rfl, hH1, by rw [l1.length]; exact w1'.1, ?_⟩
      obtain ⟨R2, e2⟩ := mu1 (vs1 ++ [v1]) (xs1 ++ [r.d]) (l1.append (.one z1)) (.own (xs1 ++ [r.d])) (fun _ => rfl) (fun q => by rw [hk1] at q; cases q)
      exact ct.nx _ σ _ ow1 w1'.2 R2 (e1.trans e2) rfl
    · rw [hk1] at w1'
      refine ⟨p, vs1, v1, rfl, rfl, hH1, by rw [l1.length]; exact w1'.1, ?_⟩
      obtain ⟨R2, e2⟩ := mu1 (vs1 ++ [v1]) (xs1 ++ [r.d]) (l1.append (.one z1)) (.io (xs1 ++ [r.d])) (fun q => by rw [hk1] at q; cases q) (fun _ => rfl)
      exact ct.nx _ σ _ ow1 w1'.2 R2 (e1.trans e2) rfl
/-- for -/
theorem ss_for (g : Gd X F E) {iter : Expr} {body : List Stmt} {isrc : Ex} {ib : List Sx} {t : Tg} {gr : TG} (hp : PassesOwn (model X.prog X.w) X.A X.env X.xe) (hi : IX X F E Γ tg iter isrc) (ht : TgS F t gr) (hg : PG X tg gr) (hb : SBX X F E Γ body ib) (hx' : (t.ix.all fun i => decide (i < X.N.length)) = true := by rfl)
    (hf : ∀ x, foldedSetIterable iter X.env x = pure x := by intro _; rfl) : SSX X F E Γ (.For tg iter body [] pos) (.for_ t isrc ib) := PSimp (ps_len (ps_for hp g.calm hi hg hb hf)) fun D σ H h hl => by
  obtain ⟨ow, s, n, R, w, he, ct⟩ := h
  subst he
  refine ⟨F.Z0, ow, s, _, R, w, fun xs s1 J H1 ow1 w1 R1 e1 src => ?_⟩
  let W0 : Nat → L2.St → Hp → Prop := fun i σ' H' => i ≤ xs.length ∧ σ'.length = σ.length ∧ ∃ ow2 s2, Rep F F.Z0 ow2 σ' H' s2 ∧ Eff F F.Z0 ow1 H1 ow2 H' ∧ forGo t (exSs Γ ib) (xs.drop i) n s2
  refine ⟨fun i m σ' H' => m = xs.length - i ∧ W0 i σ' H', ⟨xs.length, by simp, Nat.zero_le _, rfl, ow1, s1, R1, Eff.refl _ _ _ _, w1⟩, ?_⟩
  rintro i m σ' H' ⟨rfl, hi, hl', ow2, s2, R2, e2, w2⟩
  by_cases hlt : i < xs.length
  · rw [drop_get hlt] at w2
    refine .inr ⟨src.go i ow2 H' hlt e2, W0 (i + 1), fun σ'' H'' p' => ⟨xs.length - (i + 1), by omega, rfl, p'⟩, fun x H3 hy => ?_⟩
    obtain ⟨R3, e3, z3⟩ := src.yld i xs[i] F.Z0 _ _ ow2 H' x H3 (by simp [hlt]) e2 (fun a z => .inl z) R2 hy
    refine ht F.Z0 ow2 σ' H3 s2 n.ex x _ _ _ (fun j hj => by rw [hl', hl]; exact of_decide_eq_true (List.all_eq_true.mp hx' j hj)) R3 z3 w2 fun s4 σ4 ow4 w4 R4 e4 l4 _ => ?_
    have hl4 : σ4.length = σ.length := l4.trans hl'
    have e24 := (e2.trans e3).trans e4
    refine ⟨ow4, s4, _, R4, w4, rfl, ⟨fun s5 σ5 H5 ow5 w5 R5 e5 l5 => ⟨hlt, l5.trans hl4, ow5, s5, R5, e24.trans e5, w5⟩, fun s5 σ5 H5 ow5 w5 R5 e5 l5 => ct.nx s5 σ5 H5 ow5 w5 R5 (e1.trans (e24.trans e5)) (l5.trans hl4),
      fun s5 σ5 H5 ow5 w5 R5 e5 l5 => ⟨hlt, l5.trans hl4, ow5, s5, R5, e24.trans e5, w5⟩, fun r s5 v5 σ5 H5 ow5 w5 R5 e5 => ct.rt r s5 v5 σ5 H5 ow5 w5 (R5.back (e1.trans e24).dm) (e1.trans (e24.trans e5))⟩⟩
  · have ei : i = xs.length := by omega
    subst ei
    rw [List.drop_length] at w2
    exact .inl ⟨src.stop ow2 H' e2, ct.nx s2 σ' H' ow2 w2 R2 (e1.trans e2) hl'⟩
end
end PP
set_option Elab.async false
set_option linter.all false
set_option maxRecDepth 100000
set_option maxHeartbeats 2000000
namespace PP
open PySem L2
inductive ArgsOk (G : Gc) (T : SA) (A : AS) (H : Hp) : List V → List (Option D) → Prop
  | nil : ArgsOk G T A H [] []
  | st {vs : List V} {as : List (Option D)} : ArgsOk G T A H vs as → ArgsOk G T A H (.ref T.s :: vs) (none :: as)
  | d {v : V} {d : D} {vs : List V} {as : List (Option D)} : Fz G A H v d → ArgsOk G T A H vs as → ArgsOk G T A H (v :: vs) (some d :: as)
theorem ArgsOk.length {G : Gc} {T : SA} {A : AS} {H : Hp} : ∀ {vs : List V} {as : List (Option D)}, ArgsOk G T A H vs as → vs.length = as.length
  | _, _, .nil => rfl
  | _, _, .st h => by simp [h.length]
  | _, _, .d _ h => by simp [h.length]
theorem ArgsOk.mono {G : Gc} {T : SA} {A B : AS} {H : Hp} (s : ∀ a, B a → A a) : ∀ {vs : List V} {as : List (Option D)}, ArgsOk G T A H vs as → ArgsOk G T B H vs as
  | _, _, .nil => .nil
  | _, _, .st h => .st (h.mono s)
  | _, _, .d z h => .d (z.mono fun a q => .inl (s a q)) (h.mono s)
theorem ArgsOk.append {G : Gc} {T : SA} {A : AS} {H : Hp} : ∀ {vs ws : List V} {as bs : List (Option D)}, ArgsOk G T A H vs as → ArgsOk G T A H ws bs → ArgsOk G T A H (vs ++ ws) (as ++ bs)
  | _, _, _, _, .nil, k => k
  | _, _, _, _, .st h, k => .st (h.append k)
  | _, _, _, _, .d z h, k => .d z (h.append k)
def RRc (G : Gc) (A : AS) (H H' : Hp) (v : V) : R → Prop
  | .fz d => Fz G A H' v d
  | .nl xs => ∃ p vs, v = .ref p ∧ H p = none ∧ H' p = some (.lst vs) ∧ FzL G (add A p) H' vs xs
  | .nd ds => ∃ p kvs, v = .ref p ∧ H p = none ∧ H' p = some (.dK kvs) ∧ kvs.map (·.1) = ds.map (·.1) ∧ FzL G (add A p) H' (kvs.map (·.2)) (ds.map (·.2))
def liftSp (G : Gc) (np : Nat) (con : Con) : Sp := fun vs H Q Ex => vs.length = np ∧ ∃ (T : SA) (A : AS) (as : List (Option D)) (c : Stm) (K : R → Stm → Prop) (e : XCc), StrOk T H c ∧ (∀ a, T.A a → A a) ∧ T.tb = G.tb ∧ (∀ a, A a → NT (H a)) ∧ ArgsOk G T A H vs as ∧ con as c K e ∧
  (∀ r c' v H', K r c' → Keep T.A A H H' → StrOk T H' c' → RRc G A H H' v r → Q v H') ∧ ∀ xn c' cls d H', e xn c' → Keep T.A A H H' → StrOk T H' c' → XcIs G A H' cls d xn → Ex cls d H'
theorem XcIs.mono {G : Gc} {A B : AS} {H : Hp} {cls : Value} {d : Option Addr} {xn : Xn} (s : ∀ a, B a → A a) (h : XcIs G A H cls d xn) : XcIs G B H cls d xn :=
  ⟨h.1, h.2.imp id fun ⟨dx, fs, e, n, hd, ek, l⟩ => ⟨dx, fs, e, fun z => n (s _ z), hd, ek, l.mono fun a z => .inl (s a z)⟩⟩
/-- the code keeps the contract -/
def ImplX (Γ : Env) (n : Nat) (con : Con) (code : List Sx) : Prop := ∀ as c K (e : XCc), con as c K e → exSs Γ code ⟨fun s => K (.fz .non) s.c, fun r s => K r s.c, fun _ => False, fun _ => False, fun xn s => e xn s.c⟩ ⟨startS n as, c⟩
/-- a contract that lets no error out -/
def NoErr (con : Con) : Prop := ∀ as c K e, con as c K e → con as c K noXc
def Impl (Γ : Env) (n : Nat) (con : Con) (code : List Sx) : Prop := ∀ as c K, con as c K noXc → exSs Γ code ⟨fun s => K (.fz .non) s.c, fun r s => K r s.c, fun _ => False, fun _ => False, noX⟩ ⟨startS n as, c⟩
theorem gt_eq : ∀ (l : List (Option P)) (i : Nat), gt l i = (l[i]?).join
  | [], i => by simp [gt]
  | x :: l, 0 => by simp [gt]
  | x :: l, i + 1 => by simp [gt, gt_eq l i]
theorem args_slot {G : Gc} {T : SA} {A : AS} {H : Hp} : ∀ {vs : List V} {as : List (Option D)} {i : Nat} {p : P} {n : Nat}, ArgsOk G T A H vs as → gt (startS n as) i = some p → ∃ v, vs[i]? = some v ∧ ((p = .stm ∧ v = .ref T.s) ∨ ∃ d, p = .fz d ∧ Fz G A H v d)
  | vs, as, i, p, n, h, e => by
    rw [gt_eq] at e
    unfold startS at e
    by_cases hi : i < as.length
    · rw [List.getElem?_append_left (by simpa using hi), List.getElem?_map] at e
      clear n
      induction h generalizing i with
      | nil => simp at hi
      | st h ih =>
        cases i with
        | zero => simp [slotOf] at e; subst e; exact ⟨_, rfl, .inl ⟨rfl, rfl⟩⟩
        | succ i => simpa using ih (i := i) (by simpa using e) (by simpa using hi)
      | d z h ih =>
        cases i with
        | zero => simp [slotOf] at e; subst e; exact ⟨_, rfl, .inr ⟨_, rfl, z⟩⟩
        | succ i => simpa using ih (i := i) (by simpa using e) (by simpa using hi)
    · rw [List.getElem?_append_right (by simpa using hi), List.getElem?_replicate] at e
      split at e <;> simp at e
theorem rep_start {G : Gc} {T : SA} {A : AS} {H : Hp} {vs : List V} {as : List (Option D)} {c : Stm} {N : List Str} (hs : StrOk T H c) (h1 : ∀ a, T.A a → A a) (h2 : T.tb = G.tb) (hA : ∀ a, A a → NT (H a)) (h : ArgsOk G T A H vs as) (hl : vs.length ≤ N.length) :
    Rep ⟨G, T, H, T.A, A⟩ A (fun _ => none) (start N vs) H ⟨startS N.length as, c⟩ := by
  refine ⟨Keep.refl _ _ _, hs, fun _ z => z, h1, fun a z => .inl z, hA, fun a z => .inl (h1 a z), fun _ _ e => (by cases e), fun _ _ _ e => (by cases e), fun _ _ e => (by cases e), ?_, fun i p e => ?_⟩
  · show (startS N.length as).length = (start N vs).length
    unfold startS L2.start
    simp [h.length]
  · obtain ⟨v, hv, q⟩ := args_slot h e
    refine ⟨v, ?_, ?_⟩
    · have hi : i < vs.length := (List.getElem?_eq_some_iff.mp hv).1
      unfold L2.start
      rw [List.getElem?_append_left (by simpa using hi), List.getElem?_map, hv]
      rfl
    · have sub : ∀ a, Av' A (fun _ => none) a → A a ∨ H a = none := fun a z => by
        rcases z with z | ⟨_, z⟩
        · exact .inl z
        · cases z
      rcases q with ⟨rfl, rfl⟩ | ⟨d, rfl, z⟩
      · exact ⟨rfl, rfl⟩
      · exact ⟨z.mono sub, rfl⟩
section
variable {P : Program} {w : World} {K : PySem.W.Frag} {mg : Str → Option Value} {base : Heap} {x qual : Str} {params : Arguments} {body : List Stmt} {scope : Scope} {dvs : List V} {kws : List (Str × V)} {f : Addr} {fd : FuncData}
theorem fn_end {G : Gc} {T : SA} {A' : AS} {H : Hp} {Q : VK} {K' : R → Stm → Prop} {N : List Str} {ex : XC} (kq : ∀ r c' v H', K' r c' → Keep T.A A' H H' → StrOk T H' c' → RRc G A' H H' v r → Q v H') {L : Nat} {D0 : Ends} (hD : D0 = { nx := fun _ H' => Q .non H', rt := Q }) :
    CT ⟨G, T, H, T.A, A'⟩ L (fun _ => none) H ⟨fun s => K' (.fz .non) s.c, fun r s => K' r s.c, fun _ => False, fun _ => False, ex⟩ D0 := by
  subst hD
  refine ⟨fun s' σ' H' ow' w R e _ => ?_, fun _ _ _ _ w => w.elim, fun _ _ _ _ w => w.elim, fun r s' v σ' H' ow' w R e => ?_⟩
  · exact kq (.fz .non) s'.c _ H' w R.keep R.strm .non
  · have sub : ∀ a, A' a → Av' A' ow' a ∨ H' a = none := fun a z => .inl (.inl z)
    cases r with
    | fz d => exact kq _ s'.c _ H' w R.1.keep R.1.strm (R.2.mono sub)
    | nl xs =>
      obtain ⟨p, us, rfl, _, nz, nm, h0, R, ep, l⟩ := R
      exact kq _ s'.c _ H' w R.keep R.strm ⟨p, us, rfl, h0, ep, l.mono fun a z => .inl (.inl z)⟩
    | nd xs =>
      obtain ⟨p, us, rfl, _, nz, nm, h0, R, ep, ek, l⟩ := R
      exact kq _ s'.c _ H' w R.keep R.strm ⟨p, us, rfl, h0, ep, ek, l.mono fun a z => .inl (.inl z)⟩
/-- a def keeps its contract: its text means the code, the code keeps it; no error -/
theorem fn_pure {G : Gc} {Γ : Env} {N ps : List Str} {k : Nat} {con : Con} {code : List Sx} (F : FunD K x qual params body scope dvs kws f fd) (S : FnScope N ps scope) (hN : ps.length ≤ N.length) (hK : K = G.K)
    (hd : ∀ (cdv : Value) (A : Around) (outer : List PySem.Env) (s : Shared) (H : Hp) (E : XK) (Fm : Fm), Fm.G = G → Gd (cxOf CX0 P w K mg base N qual scope f cdv A outer s H E).nox Fm noX → RoomG k (A.deeper (PyProof.Rows.envOfC qual scope s.heap.objs.size f cdv)) →
      SBX (cxOf CX0 P w K mg base N qual scope f cdv A outer s H E).nox Fm noX Γ body code)
    (hp : Impl Γ N.length con code) (hI : NoErr con) : FnOg P w K mg base CX0 (k + 1) f fd ps (liftSp G ps.length con) := by
  refine F.okg S (fun vs H Q E h => h.1) fun cdv A outer s H vs Q E hr h => ?_
  obtain ⟨hl, T, A', as, c, K', e, hs, h1, h2, hA, ha, hc, kq, _⟩ := h
  refine ⟨_, PSs.nox (hd cdv A outer s H E ⟨G, T, H, T.A, A'⟩ rfl ⟨hK, rfl, S.nd, hr.units, hr.g, takes_no, h2⟩ hr), ?_⟩
  have R0 := rep_start (N := N) hs h1 h2 hA ha (by rw [hl]; exact hN)
  exact ⟨fun _ => none, _, _, R0, hp as c K' (hI _ _ _ _ hc), rfl, fn_end (N := N) kq rfl⟩
/-- .. errors come out -/
theorem fn_pureX {G : Gc} {Γ : Env} {N ps : List Str} {k : Nat} {con : Con} {code : List Sx} (F : FunD K x qual params body scope dvs kws f fd) (S : FnScope N ps scope) (hN : ps.length ≤ N.length) (hK : K = G.K)
    (hd : ∀ (cdv : Value) (A : Around) (outer : List PySem.Env) (s : Shared) (H : Hp) (E : XK) (Fm : Fm) (Ex : XC), Fm.G = G → Gd (cxOf (CX P w) P w K mg base N qual scope f cdv A outer s H E) Fm Ex → RoomG k (A.deeper (PyProof.Rows.envOfC qual scope s.heap.objs.size f cdv)) →
      SBX (cxOf (CX P w) P w K mg base N qual scope f cdv A outer s H E) Fm Ex Γ body code)
    (hp : ImplX Γ N.length con code) : FnOg P w K mg base (CX P w) (k + 1) f fd ps (liftSp G ps.length con) := by
  refine F.okg S (fun vs H Q E h => h.1) fun cdv A outer s H vs Q E hr h => ?_
  obtain ⟨hl, T, A', as, c, K', e, hs, h1, h2, hA, ha, hc, kq, kx⟩ := h
  have tk : Takes (cxOf (CX P w) P w K mg base N qual scope f cdv A outer s H E) (wx ⟨G, T, H, T.A, A'⟩ fun xn s => e xn s.c) :=
    Takes.imp (takes_of (X := cxOf (CX P w) P w K mg base N qual scope f cdv A outer s H E) (E := E) rfl rfl rfl rfl) fun cls d σ' H' ⟨Z, ow, s', xn, R, xi, w⟩ => kx xn s'.c cls d H' w R.keep R.strm (xi.mono fun a z => by
      rcases R.z0 a z with q | q
      · exact .inl q
      · exact R.mdz a q)
  refine ⟨_, hd cdv A outer s H E ⟨G, T, H, T.A, A'⟩ (fun xn s => e xn s.c) rfl ⟨hK, rfl, S.nd, hr.units, hr.g, tk, h2⟩ hr, ?_⟩
  have R0 := rep_start (N := N) hs h1 h2 hA ha (by rw [hl]; exact hN)
  exact ⟨fun _ => none, _, _, R0, hp as c K' e hc, rfl, fn_end (N := N) kq rfl⟩
end
inductive AvOk (F : Fm) (Z : AS) (ow : Ow) (σ : L2.St) (H : Hp) : V → Av → Prop
  | st : AvOk F Z ow σ H (.ref F.T.s) .st
  | v {v : V} {x : VR} : VOk F Z ow σ H v x → AvOk F Z ow σ H v (.v x)
inductive AvOks (F : Fm) (Z : AS) (ow : Ow) (σ : L2.St) (H : Hp) : List V → List Av → Prop
  | nil : AvOks F Z ow σ H [] []
  | cons {v : V} {x : Av} {vs : List V} {xs : List Av} : AvOk F Z ow σ H v x → AvOks F Z ow σ H vs xs → AvOks F Z ow σ H (v :: vs) (x :: xs)
def LAv (F : Fm) (E : XC) (f : M Av) : TE := fun σ H Q => ∃ Z ow s K, Rep F Z ow σ H s ∧ f s K E ∧ ∀ x s' v H' ow', K x s' → Rep F Z ow' σ H' s' → AvOk F Z ow' σ H' v x → Eff F Z ow H ow' H' → Q v H'
def LAvs (F : Fm) (E : XC) (f : M (List Av)) : TA := fun σ H Q => ∃ Z ow s K, Rep F Z ow σ H s ∧ f s K E ∧ ∀ xs s' vs H' ow', K xs s' → Rep F Z ow' σ H' s' → AvOks F Z ow' σ H' vs xs → Eff F Z ow H ow' H' → Q vs H'
section
variable {F : Fm} {E : XC} {Z : AS} {ow ow1 : Ow} {σ : L2.St} {H H1 H' : Hp} {s : S} {v : V}
theorem AvOk.tr (R : Rep F Z ow σ H s) (e : Eff F Z ow H ow1 H1) {x : Av} (h : AvOk F Z ow σ H v x) : AvOk F Z ow1 σ H1 v x := by
  cases h with
  | st => exact .st
  | v h => exact .v (h.tr R e)
theorem lav_var {i : Nat} {Q : VK} (h : LAv F E (avOf (.var i) (qVar i)) σ H Q) : tVar i σ H Q := by
  obtain ⟨Z, ow, s, K, R, hf, hq⟩ := h
  have other : vwOf (.var i) (qVar i) s (fun x => K (.v x)) E → tVar i σ H Q := fun w =>
    lv_var (F := F) (E := E) (f := qVar i) ⟨Z, ow, s, fun x => K (.v x), R, w, fun x s' v H' ow' k R' o e => hq _ s' v H' ow' k R' (.v o) e⟩
  have w : (match gt s.sl i with
    | some .stm => K .st s
    | _ => vwOf (.var i) (qVar i) s (fun x => K (.v x)) E) := hf
  cases hg : gt s.sl i with
  | none => rw [hg] at w; exact other w
  | some q =>
    rw [hg] at w
    cases q with
    | stm =>
      obtain ⟨v, hv, rfl, _⟩ := R.sl i _ hg
      exact ⟨_, hv, hq _ s _ H ow w R .st (Eff.refl _ _ _ _)⟩
    | _ => exact other w
/-- arguments that stay -/
inductive BOk (F : Fm) (Z : AS) (ow : Ow) (H : Hp) : V → Option D → Prop
  | st : BOk F Z ow H (.ref F.T.s) none
  | d {v : V} {d : D} : Fz F.G (Av' Z ow) H v d → BOk F Z ow H v (some d)
def LB (F : Fm) (E : XC) (f : M (Option D)) : TE := fun σ H Q => ∃ Z ow s K, Rep F Z ow σ H s ∧ f s K E ∧ ∀ x s' v H' ow', K x s' → Rep F Z ow' σ H' s' → BOk F Z ow' H' v x → Eff F Z ow H ow' H' → Q v H'
def LBs (F : Fm) (E : XC) (f : M (List (Option D))) : TA := fun σ H Q => ∃ Z ow s K, Rep F Z ow σ H s ∧ f s K E ∧ ∀ xs s' vs H' ow', K xs s' → Rep F Z ow' σ H' s' → ArgsOk F.G F.T (Av' Z ow') H' vs xs → Eff F Z ow H ow' H' → Q vs H'
theorem ArgsOk.tr (R : Rep F Z ow σ H s) (e : Eff F Z ow H ow1 H1) : ∀ {vs : List V} {as : List (Option D)}, ArgsOk F.G F.T (Av' Z ow) H vs as → ArgsOk F.G F.T (Av' Z ow1) H1 vs as
  | _, _, .nil => .nil
  | _, _, .st h => .st (ArgsOk.tr R e h)
  | _, _, .d z h => .d (R.fz e z) (ArgsOk.tr R e h)
theorem lb_var {i : Nat} {Q : VK} (h : LB F E (bvOf (.var i) (qVar i)) σ H Q) : tVar i σ H Q := by
  obtain ⟨Z, ow, s, K, R, hf, hq⟩ := h
  have other : toD (qVar i) s (fun d => K (some d)) E → tVar i σ H Q := fun w =>
    lr_var (F := F) (E := E) ⟨Z, ow, s, fun r => K (some r.d), R, w, fun r s' v H' ow' k rr e => hq (some r.d) s' v H' ow' k (rr.fz' R).1 (.d (rr.fz' R).2) e⟩
  have w : (match gt s.sl i with
    | some .stm => K none s
    | _ => toD (qVar i) s (fun d => K (some d)) E) := hf
  cases hg : gt s.sl i with
  | none => rw [hg] at w; exact other w
  | some q =>
    rw [hg] at w
    cases q with
    | stm =>
      obtain ⟨v, hv, rfl, _⟩ := R.sl i _ hg
      exact ⟨_, hv, hq _ s _ H ow w R .st (Eff.refl _ _ _ _)⟩
    | _ => exact other w
theorem lb_val {f : M R} {Q : VK} (h : LB F E (bnd (toD f) fun d => ret (some d)) σ H Q) : LR F E f σ H Q := by
  obtain ⟨Z, ow, s, K, R, hf, hq⟩ := h
  exact ⟨Z, ow, s, _, R, hf, fun r s' v H' ow' k rr e => hq (some r.d) s' v H' ow' k (rr.fz' R).1 (.d (rr.fz' R).2) e⟩
theorem lbs_nil {Q : List V → Hp → Prop} (h : LBs F E (ret []) σ H Q) : tNil σ H Q := by
  obtain ⟨Z, ow, s, K, R, hf, hq⟩ := h
  exact hq [] s [] H ow hf R .nil (Eff.refl _ _ _ _)
theorem lbs_cons {Q : List V → Hp → Prop} {f : M (Option D)} {fs : M (List (Option D))} (h : LBs F E (bnd f fun a => bnd fs fun as => ret (a :: as)) σ H Q) : tCons (LB F E f) (LBs F E fs) σ H Q := by
  obtain ⟨Z, ow, s, K, R, hf, hq⟩ := h
  refine ⟨Z, ow, s, _, R, hf, fun x s1 v1 H1 ow1 k1 R1 o1 e1 => ⟨Z, ow1, s1, _, R1, k1, fun y s2 v2 H2 ow2 k2 R2 o2 e2 => hq (x :: y) s2 (v1 :: v2) H2 ow2 k2 R2 ?_ (e1.trans e2)⟩⟩
  cases o1 with
  | st => exact .st o2
  | d z => exact .d (R1.fz e2 z) o2
theorem lav_val {f : M R} {Q : VK} (h : LAv F E (bnd (toD f) fun d => ret (.v (.d d))) σ H Q) : LR F E f σ H Q := by
  obtain ⟨Z, ow, s, K, R, hf, hq⟩ := h
  exact ⟨Z, ow, s, _, R, hf, fun r s' v H' ow' k rr e => hq (.v (.d r.d)) s' v H' ow' k (rr.fz' R).1 (.v (rr.fz' R).2) e⟩
theorem lavs_nil {Q : List V → Hp → Prop} (h : LAvs F E (ret []) σ H Q) : tNil σ H Q := by
  obtain ⟨Z, ow, s, K, R, hf, hq⟩ := h
  exact hq [] s [] H ow hf R .nil (Eff.refl _ _ _ _)
theorem lavs_cons {Q : List V → Hp → Prop} {f : M Av} {fs : M (List Av)} (h : LAvs F E (bnd f fun a => bnd fs fun as => ret (a :: as)) σ H Q) : tCons (LAv F E f) (LAvs F E fs) σ H Q := by
  obtain ⟨Z, ow, s, K, R, hf, hq⟩ := h
  exact ⟨Z, ow, s, _, R, hf, fun x s1 v1 H1 ow1 k1 R1 o1 e1 => ⟨Z, ow1, s1, _, R1, k1, fun y s2 v2 H2 ow2 k2 R2 o2 e2 => hq (x :: y) s2 (v1 :: v2) H2 ow2 k2 R2 (.cons (o1.tr R1 e2) o2) (e1.trans e2)⟩⟩
/-- what is lent: lists of one's own -/
def lentA (Z : AS) (ow : Ow) (L : List Nat) : AS := fun a => Av' Z ow a ∧ ¬ ∃ i ∈ L, ow i = some a
def Lent (ow : Ow) (H : Hp) (L : List Nat) : Prop := ∀ i ∈ L, ∀ a, ow i = some a → ∃ us, H a = some (.lst us)
theorem resL_ok (R : Rep F Z ow σ H s) {x : VR} (h : VOk F Z ow σ H v x) {K : D → S → Prop} (w : resL x s K E) : ∃ d L, K d s ∧ Lent ow H L ∧ (∀ d' : D, x = .d d' → L = []) ∧ Fz F.G (lentA Z ow L) H v d := by
  cases x with
  | d d => exact ⟨d, [], w, fun _ h => (by cases h), fun _ _ => rfl, Fz.mono (fun a z => .inl z.1) h⟩
  | sl i =>
    have w' : (match gt s.sl i with
      | some (.fz d) => K d s
      | some (.own xs) => K (.lst xs) s
      | some (.io xs) => K (.lst xs) s
      | _ => False) := w
    have hv : σ[i]? = some (some v) := h
    cases hg : gt s.sl i with
    | none => rw [hg] at w'; exact w'.elim
    | some q =>
      rw [hg] at w'
      obtain ⟨v', hv', ok⟩ := R.sl i q hg
      rw [hv] at hv'; cases hv'
      cases q with
      | fz d => exact ⟨d, [], w', fun _ h => (by cases h), fun _ e => (by cases e), ok.1.mono fun a z => .inl z.1⟩
      | own xs =>
        obtain ⟨a, vs, rfl, e1, _, _, e2, l⟩ := ok
        refine ⟨_, [i], w', fun j hj b e => ?_, fun _ e => (by cases e), .lst (fun z => z.2 ⟨i, by simp, e1⟩) e2 (l.mono fun a z => .inl z.1)⟩
        rw [List.mem_singleton.mp hj, e1] at e; cases e; exact ⟨vs, e2⟩
      | io xs =>
        obtain ⟨a, vs, rfl, e1, _, e2, l⟩ := ok
        refine ⟨_, [i], w', fun j hj b e => ?_, fun _ e => (by cases e), .lst (fun z => z.2 ⟨i, by simp, e1⟩) e2 (l.mono fun a z => .inl z.1)⟩
        rw [List.mem_singleton.mp hj, e1] at e; cases e; exact ⟨vs, e2⟩
      | ownd ds => exact w'.elim
      | stm => exact w'.elim
      | fn _ _ _ => exact w'.elim
      | ini _ _ => exact w'.elim
      | df _ => exact w'.elim
theorem lentA_app {L L' : List Nat} : (∀ a, lentA Z ow (L ++ L') a → lentA Z ow L a) ∧ ∀ a, lentA Z ow (L ++ L') a → lentA Z ow L' a :=
  ⟨fun a z => ⟨z.1, fun ⟨i, hi, e⟩ => z.2 ⟨i, by simp [hi], e⟩⟩, fun a z => ⟨z.1, fun ⟨i, hi, e⟩ => z.2 ⟨i, by simp [hi], e⟩⟩⟩
def plainAv : Av → Bool
  | .st => true
  | .v (.d _) => true
  | _ => false
theorem resA_ok (R : Rep F Z ow σ H s) : ∀ {vs : List V} {as : List Av} {K : List (Option D) → S → Prop}, AvOks F Z ow σ H vs as → resA as s K E → ∃ ds L, K ds s ∧ Lent ow H L ∧ (as.all plainAv = true → L = []) ∧ ArgsOk F.G F.T (lentA Z ow L) H vs ds
  | _, _, K, .nil, w => ⟨[], [], w, fun _ h => (by cases h), fun _ => rfl, .nil⟩
  | _, _, K, .cons .st t, w => by
    obtain ⟨ds, L, w1, h1, h2, h3⟩ := resA_ok R t w
    exact ⟨none :: ds, L, w1, h1, fun h => h2 (by simpa [plainAv] using h), .st h3⟩
  | _, _, K, .cons (.v (x := x) hx) t, w => by
    obtain ⟨d, L, w1, h1, h2, h3⟩ := resL_ok R hx w
    obtain ⟨ds, L', w2, h1', h2', h3'⟩ := resA_ok R t w1
    refine ⟨some d :: ds, L ++ L', w2, fun i hi => ?_, fun h => ?_, .d (h3.mono fun a z => .inl (lentA_app.1 a z)) (h3'.mono fun a z => lentA_app.2 a z)⟩
    · rcases List.mem_append.mp hi with q | q
      · exact h1 i q
      · exact h1' i q
    · rw [List.all_cons, Bool.and_eq_true] at h
      cases x with
      | d d => rw [h2 d rfl, h2' h.2]; rfl
      | sl i => cases h.1
/-- behind a call -/
theorem Rep.called {Y : AS} {L : List Nat} {c' : Stm} (R : Rep F Z ow σ H s) (hL : Lent ow H L) (k : Keep F.T.A (lentA Z ow L) H H') (hs : StrOk F.T H' c') (y1 : ∀ a, Z a → Y a) (y2 : ∀ a, Y a → Z a ∨ (H a = none ∧ NT (H' a) ∧ ¬ F.md a)) :
    Rep F Y ow σ H' { s with c := c' } := by
  have tz : ∀ a, F.T.A a → Z a := R.zs
  have ztl : ∀ a, Z a → lentA Z ow L a := fun a z => ⟨.inl z, fun ⟨i, _, e⟩ => R.oz i a e z⟩
  have dm : ∀ a, H a ≠ none → H' a ≠ none := fun a h e => by
    by_cases q : F.T.A a
    · exact hs.i q e
    · exact h (k.none e q)
  have dmT : ∀ a, NT (H a) → NT (H' a) := fun a h => by
    by_cases q : F.T.A a
    · exact hs.it q
    · cases e : H a with
      | none => exact absurd e h.1
      | some o =>
        obtain ⟨o', e', l, _⟩ := k a o e q
        exact h.le e e' l
  have oeq : ∀ i a, ow i = some a → H' a = H a := fun i a e => by
    have na : ¬ F.T.A a := fun z => R.oz i a e (tz a z)
    cases q : H a with
    | none => exact absurd q (R.ojn e)
    | some o =>
      by_cases hl : ∃ j ∈ L, ow j = some a
      · obtain ⟨j, hj, ej⟩ := hl
        obtain ⟨us, hu⟩ := hL j hj a ej
        rw [q] at hu; cases hu
        exact k.at q na le_lst
      · exact k.atZ q na ⟨.inr ⟨i, e⟩, hl⟩
  refine ⟨R.keep.trans fun a o e m => ?_, hs, R.mds, fun a z => y1 a (R.zs a z), fun a z => (R.z0 a z).imp (y1 a) id, fun a z => ?_, fun a z => (R.mdz a z).imp (y1 a) id, fun i p e z => ?_, R.od, R.oin, R.len, fun i p e => ?_⟩
  · obtain ⟨o', e', l, zz⟩ := k a o e (fun z => m (R.mds a z))
    exact ⟨o', e', l, fun z0 => zz (ztl a ((R.z0 a z0).elim id fun q => absurd q m))⟩
  · rcases y2 a z with q | q
    · exact dmT a (R.zin a q)
    · exact q.2.1
  · rcases y2 p z with q | q
    · exact R.oz i p e q
    · exact R.ojn e q.1
  · obtain ⟨v, hv, ok⟩ := R.sl i p e
    exact ⟨v, hv, ok.tr (k.mono (fun a z => .inl (tz a z)) fun _ z => z : Keep (Av' Z ow) (lentA Z ow L) H H') (fun a z => z.elim (fun z => (y2 a z).imp .inl fun q => q.1) fun z => .inl (.inr z)) fun a e => oeq i a e⟩
theorem Eff.called {L : List Nat} {c' : Stm} (R : Rep F Z ow σ H s) (hL : Lent ow H L) (k : Keep F.T.A (lentA Z ow L) H H') (hs : StrOk F.T H' c') : Eff F Z ow H ow H' := by
  refine ⟨fun a o e m => ?_, fun i p h => .inl ⟨i, h⟩, fun a h e => ?_⟩
  · obtain ⟨o', e', l, zz⟩ := k a o e (fun z => m (.inl (R.mds a z)))
    exact ⟨o', e', l, fun z => zz ⟨.inl z, fun ⟨i, _, e⟩ => R.oz i a e z⟩⟩
  · by_cases q : F.T.A a
    · exact hs.i q e
    · exact h (k.none e q)
/-- the value of a call -/
theorem rr_called {L : List Nat} {c' : Stm} {r : R} (R : Rep F Z ow σ H s) (hL : Lent ow H L) (k : Keep F.T.A (lentA Z ow L) H H') (hs : StrOk F.T H' c') (h : RRc F.G (lentA Z ow L) H H' v r) (hp : L = [] ∨ sclR r = true) : RR F Z H ow σ H' { s with c := c' } v r := by
  have R' : Rep F Z ow σ H' { s with c := c' } := R.called hL k hs (fun _ z => z) fun a z => .inl z
  have l0 : L = [] → ∀ a, Av' Z ow a → lentA Z ow L a := fun e a z => by subst e; exact ⟨z, fun ⟨_, h, _⟩ => by cases h⟩
  cases r with
  | fz d =>
    rcases hp with e | e
    · exact ⟨R', Fz.mono (fun a z => .inl (l0 e a z)) h⟩
    · have hd : isScalar d = true := e
      rw [fz_sc hd h]
      exact ⟨R', fz_of_sc hd⟩
  | nl xs =>
    obtain ⟨p, us, rfl, hp0, ep, l⟩ := h
    rcases hp with e | e
    · obtain ⟨nm, n0, nz⟩ := R.new0 hp0
      refine ⟨p, us, rfl, hp0, fun z => nz (.inl z), nm, n0, R.called hL k hs (fun a z => .inl z) (fun a z => ?_), ep, l.mono fun a z => .inl ?_⟩
      · rcases z with z | rfl
        · exact .inl z
        · exact .inr ⟨hp0, .of ep nofun, nm⟩
      · rcases z with (z | rfl) | z
        · exact .inl (l0 e a (.inl z))
        · exact .inr rfl
        · exact .inl (l0 e a (.inr z))
    · cases e
  | nd xs =>
    obtain ⟨p, us, rfl, hp0, ep, ek, l⟩ := h
    rcases hp with e | e
    · obtain ⟨nm, n0, nz⟩ := R.new0 hp0
      refine ⟨p, us, rfl, hp0, fun z => nz (.inl z), nm, n0, R.called hL k hs (fun a z => .inl z) (fun a z => ?_), ep, ek, l.mono fun a z => .inl ?_⟩
      · rcases z with z | rfl
        · exact .inl z
        · exact .inr ⟨hp0, .of ep nofun, nm⟩
      · rcases z with (z | rfl) | z
        · exact .inl (l0 e a (.inl z))
        · exact .inr rfl
        · exact .inl (l0 e a (.inr z))
    · cases e
end
end PP
set_option Elab.async false
set_option linter.all false
set_option maxRecDepth 100000
set_option maxHeartbeats 2000000
namespace PP
open PySem L2
/-- a def that the module's name x stands for -/
structure FnE (P : Program) (w : World) (K : PySem.W.Frag) (mg : Str → Option Value) (base : Heap) (G : Gc) (k : Nat) (x : Str) (con : Con) (dfl : List D) (nd : Nat) : Prop where
  ok : ∃ f fd ps dvs ds, FnOg P w K mg base (L2.CX P w) k f fd ps (liftSp G ps.length con) ∧ mg x = some (.ref f) ∧ PySem.W.keepIn K (.ref f) = true ∧ Binds K fd ps ds ∧ Vals dvs ds ∧ (∀ as c K e, con as c K e → as.length = ps.length) ∧ ∀ T A H, ArgsOk G T A H dvs (dflTail dfl nd)
/-- a method of the class c -/
structure MtE (P : Program) (w : World) (K : PySem.W.Frag) (mg : Str → Option Value) (base : Heap) (G : Gc) (k : Nat) (c m : Str) (con : Con) (dfl : List D) (nd : Nat) : Prop where
  ok : ∃ f fd ps dvs ds, FnOg P w K mg base (L2.CX P w) k f fd ps (liftSp G ps.length con) ∧ Cls K (G.ga c) ∧ Meth K (G.ga c) m f ∧ Binds K fd ps ds ∧ Vals dvs ds ∧ (∀ as c K e, con as c K e → as.length = ps.length) ∧ ∀ T A H, ArgsOk G T A H dvs (dflTail dfl nd)
/-- a class c, made by its __init__ -/
structure MkE (P : Program) (w : World) (K : PySem.W.Frag) (mg : Str → Option Value) (base : Heap) (G : Gc) (k : Nat) (c : Str) (con : Con) (dfl : List D) (nd : Nat) : Prop where
  ok : ∃ f fd ps spI dvs ds, FnOg P w K mg base (L2.CX P w) k f fd ps spI ∧ Mk K (G.ga c) f ∧ mg c = some (.ref (G.ga c)) ∧ Binds K fd ps ds ∧ Vals dvs ds ∧
    ∀ (vs : List V) (H : Hp) (Q : VK) (Ex : XK), (∃ T A as n K' e, StrOk T H n ∧ (∀ a, T.A a → A a) ∧ T.tb = G.tb ∧ (∀ a, A a → NT (H a)) ∧ ArgsOk G T A H vs as ∧ con (as ++ dflTail dfl nd) n K' e ∧ (∀ r c' v H', K' r c' → Keep T.A A H H' → StrOk T H' c' → RRc G A H H' v r → Q v H') ∧
        ∀ xn c' cls d H', e xn c' → Keep T.A A H H' → StrOk T H' c' → XcIs G A H' cls d xn → Ex cls d H') →
      ∀ x dx, H x = none → H dx = none → dx ≠ x → spI (.ref x :: (vs ++ dvs)) (upd (upd H dx (.own x)) x (.ins (G.ga c) dx [])) (fun v H2 => v = .non ∧ Q (.ref x) H2) Ex
abbrev AAX (X : Cx) (F : Fm) (E : XC) (Γ : Env) (es : List Expr) (irs : List Ex) : Prop := PA X es (LAvs F E (evA Γ irs))
abbrev ABX (X : Cx) (F : Fm) (E : XC) (Γ : Env) (es : List Expr) (irs : List Ex) : Prop := PA X es (LBs F E (evB Γ irs))
abbrev AA1 (X : Cx) (F : Fm) (E : XC) (Γ : Env) (e : Expr) (ir : Ex) : Prop := PE X e (LAv F E (avOf ir (evP Γ ir).r))
abbrev AB1 (X : Cx) (F : Fm) (E : XC) (Γ : Env) (e : Expr) (ir : Ex) : Prop := PE X e (LB F E (bvOf ir (evP Γ ir).r))
section
variable {X : Cx} {F : Fm} {E : XC} {Γ : Env} {a b c tg : Expr} {ia ib ic : Ex} {pos : Pos}
theorem ax1_var (i : Nat) {x : Str} (hN : X.N[i]? = some x := by rfl) (hv : Vis X.env.scope x := by first | exact Or.inl rfl | exact Or.inr (Or.inl rfl) | exact Or.inr (Or.inr rfl)) (hd : (x == ("__debug__" : Str)) = false := by decide)
    (hcd : (x == ("__classdict__" : Str)) = false := by decide) : AA1 X F E Γ (.Name x pos) (.var i) := PEimp (pe_var hN hv hd hcd) fun _ _ _ h => lav_var h
theorem bx1_var (i : Nat) {x : Str} (hN : X.N[i]? = some x := by rfl) (hv : Vis X.env.scope x := by first | exact Or.inl rfl | exact Or.inr (Or.inl rfl) | exact Or.inr (Or.inr rfl)) (hd : (x == ("__debug__" : Str)) = false := by decide)
    (hcd : (x == ("__classdict__" : Str)) = false := by decide) : AB1 X F E Γ (.Name x pos) (.var i) := PEimp (pe_var hN hv hd hcd) fun _ _ _ h => lb_var h
theorem avOf_eq {f : M R} {ir : Ex} (n : notVar ir = true) : avOf ir f = bnd (toD f) fun d => ret (.v (.d d)) := by
  cases ir <;> first | rfl | cases n
theorem bvOf_eq {f : M R} {ir : Ex} (n : notVar ir = true) : bvOf ir f = bnd (toD f) fun d => ret (some d) := by
  cases ir <;> first | rfl | cases n
theorem ax1 (h : SX X F E Γ a ia) (n : notVar ia = true := by rfl) : AA1 X F E Γ a ia := PEimp h fun σ H Q h => lav_val (by rw [← avOf_eq n]; exact h)
theorem bx1 (h : SX X F E Γ a ia) (n : notVar ia = true := by rfl) : AB1 X F E Γ a ia := PEimp h fun σ H Q h => lb_val (by rw [← bvOf_eq n]; exact h)
theorem aax_nil : AAX X F E Γ [] [] := PAimp pa_nil fun _ _ _ h => lavs_nil h
theorem abx_nil : ABX X F E Γ [] [] := PAimp pa_nil fun _ _ _ h => lbs_nil h
theorem aax_cons {es : List Expr} {is : List Ex} (ha : AA1 X F E Γ a ia) (hr : AAX X F E Γ es is) (hs : starEach (a :: es) X.env = (false, eval a X.env) :: starEach es X.env := by rfl) : AAX X F E Γ (a :: es) (ia :: is) := PAimp (pa_cons ha hr hs) fun _ _ _ h => lavs_cons h
theorem abx_cons {es : List Expr} {is : List Ex} (ha : AB1 X F E Γ a ia) (hr : ABX X F E Γ es is) (hs : starEach (a :: es) X.env = (false, eval a X.env) :: starEach es X.env := by rfl) : ABX X F E Γ (a :: es) (ia :: is) := PAimp (pa_cons ha hr hs) fun _ _ _ h => lbs_cons h
theorem fzl_any {G : Gc} {A B : AS} {H : Hp} : ∀ {vs : List V} {ds : List D}, ds.all isScalar = true → FzL G A H vs ds → FzL G B H vs ds
  | _, _, _, .nil => .nil
  | _, _, h, .cons a b => by
    rw [List.all_cons, Bool.and_eq_true] at h
    rw [fz_sc h.1 a]
    exact .cons (fz_of_sc h.1) (fzl_any h.2 b)
/-- an error that came out of a call -/
theorem err_called {Z : AS} {ow : Ow} {σ : L2.St} {H H' : Hp} {s : S} {L : List Nat} {scal : Bool} {c' : Stm} {xn : Xn} {cls : Value} {d : Option Addr} (R : Rep F Z ow σ H s) (hL : Lent ow H L) (hl : L = [] ∨ scal = true) (w : (scal = true → (xn.2.all fun f => isScalar f.2) = true) ∧ E xn { s with c := c' })
    (kp : Keep F.T.A (lentA Z ow L) H H') (st : StrOk F.T H' c') (xi : XcIs F.G (lentA Z ow L) H' cls d xn) : wx F E cls d σ H' := by
  obtain ⟨R', _⟩ := rr_called (r := .fz .non) (v := .non) R hL kp st .non (.inr rfl)
  refine ⟨Z, ow, _, xn, R', ?_, w.2⟩
  rcases hl with rfl | hsc
  · exact xi.mono fun a z => ⟨z, fun ⟨_, h, _⟩ => (by cases h)⟩
  · have hs := w.1 hsc
    refine ⟨xi.1, xi.2.imp id fun ⟨dx, fs, e, n, hd, ek, l⟩ => ⟨dx, fs, e, fun z => ?_, hd, ek, ?_⟩⟩
    · by_cases hlent : ∃ i, i ∈ L ∧ ow i = some dx
      · obtain ⟨i, hi, ho⟩ := hlent
        obtain ⟨us, hu⟩ := hL i hi dx ho
        obtain ⟨o', h', le, _⟩ := kp dx _ hu fun q => R.oz i dx ho (R.zs _ q)
        rw [le_lst o' le, hd] at h'
        cases h'
      · exact n ⟨z, hlent⟩
    · have h2 : (xn.2.map (·.2)).all isScalar = true := by rw [List.all_map]; exact hs
      exact fzl_any h2 l
/-- the callee's promise out of its contract -/
theorem lift_of (hT : F.T.tb = F.G.tb) {con : Con} {np : Nat} {Z : AS} {ow : Ow} {σ : L2.St} {H : Hp} {s : S} {L : List Nat} {vs : List V} {as : List (Option D)} {K : R → S → Prop} {Q : VK} {scal : Bool} (R : Rep F Z ow σ H s) (hL : Lent ow H L) (hl : L = [] ∨ scal = true) (ha : ArgsOk F.G F.T (lentA Z ow L) H vs as)
    (hn : ∀ as c K e, con as c K e → as.length = np) (w : callC con scal as s K E) (hq : ∀ r s' v H' ow', K r s' → RR F Z H ow' σ H' s' v r → Eff F Z ow H ow' H' → Q v H') : liftSp F.G np con vs H Q (WE (wx F E) σ) := by
  refine ⟨by rw [ha.length]; exact hn _ _ _ _ w, F.T, lentA Z ow L, as, s.c, _, _, R.strm, fun a z => ⟨.inl (R.zs a z), fun ⟨i, _, e⟩ => R.oz i _ e (R.zs a z)⟩, hT, fun a z => R.avT z.1, ha, w, fun r c' v H' k kp st rr => ?_, fun xn c' cls d H' k kp st xi => err_called R hL hl k kp st xi⟩
  exact hq r _ v H' ow k.2 (rr_called R hL kp st rr (hl.imp id fun e => k.1 e)) (Eff.called R hL kp st)
theorem lent0 (ow : Ow) (H : Hp) : Lent ow H [] := fun _ h => (by cases h)
theorem lentA0 {Z : AS} {ow : Ow} {a : Addr} (h : lentA Z ow [] a) : Av' Z ow a := h.1
/-- f(e, ..), what is handed over stays -/
theorem sx_call (g : Gd X F E) {k : Nat} {x : Str} {con : Con} {dfl : List D} {nd : Nat} {es : List Expr} {is : List Ex} {p : Pos} (e : FnE X.prog X.w X.K X.mg X.base F.G k x con dfl nd) (hr : RoomG k X.A) (hΓ : Γ.fn x = some (.pl con false dfl)) (ha : ABX X F E Γ (a :: es) is)
    (hg : Gl X x := by rfl) (hdb : (x == ("__debug__" : Str)) = false := by decide) (he : starEach (a :: es) X.env = (false, eval a X.env) :: starEach es X.env := by rfl) (hpl : (backTo pos (starEach es X.env)).any (·.1) = false := by rfl) :
    SX X F E Γ (.Call (.Name x p) (a :: es) [] pos) (.call x is nd) := by
  obtain ⟨f, fd, ps, dvs, ds, ok, hm, hk, hb, hd, hlen, hdf⟩ := e.ok
  refine PEimp (pe_callx ok hr hg hm hk hb hd (fun σ => passAt g.tk σ) ha hdb he hpl) fun σ H Q h => ?_
  obtain ⟨Z, ow, s, K, R, hf, hq⟩ := h
  have hf : (callE (Γ.fn x) [] (evA Γ is) (evB Γ is) nd) s K E := hf
  rw [hΓ] at hf
  exact ⟨Z, ow, s, _, R, hf, fun xs s1 vs H1 ow1 w1 R1 a1 e1 => lift_of g.tb R1 (lent0 _ _) (.inl rfl) ((a1.append (hdf _ _ _)).mono fun _ z => lentA0 z) hlen w1 fun r s' v H' ow' k rr e => hq r s' v H' ow' k (rr.back e1.dm) (e1.trans e)⟩
/-- f(e, ..), what is handed over is lent: a plain value comes back -/
theorem sx_callS (g : Gd X F E) {k : Nat} {x : Str} {con : Con} {dfl : List D} {nd : Nat} {es : List Expr} {is : List Ex} {p : Pos} (e : FnE X.prog X.w X.K X.mg X.base F.G k x con dfl nd) (hr : RoomG k X.A) (hΓ : Γ.fn x = some (.pl con true dfl)) (ha : AAX X F E Γ (a :: es) is)
    (hg : Gl X x := by rfl) (hdb : (x == ("__debug__" : Str)) = false := by decide) (he : starEach (a :: es) X.env = (false, eval a X.env) :: starEach es X.env := by rfl) (hpl : (backTo pos (starEach es X.env)).any (·.1) = false := by rfl) :
    SX X F E Γ (.Call (.Name x p) (a :: es) [] pos) (.call x is nd) := by
  obtain ⟨f, fd, ps, dvs, ds, ok, hm, hk, hb, hd, hlen, hdf⟩ := e.ok
  refine PEimp (pe_callx ok hr hg hm hk hb hd (fun σ => passAt g.tk σ) ha hdb he hpl) fun σ H Q h => ?_
  obtain ⟨Z, ow, s, K, R, hf, hq⟩ := h
  have hf : (callE (Γ.fn x) [] (evA Γ is) (evB Γ is) nd) s K E := hf
  rw [hΓ] at hf
  refine ⟨Z, ow, s, _, R, hf, fun xs s1 vs H1 ow1 w1 R1 a1 e1 => ?_⟩
  obtain ⟨ds', L, w2, hL, _, ha2⟩ := resA_ok R1 a1 w1
  exact lift_of g.tb R1 hL (.inr rfl) (ha2.append (hdf _ _ _)) hlen w2 fun r s' v H' ow' k rr e => hq r s' v H' ow' k (rr.back e1.dm) (e1.trans e)
theorem fld_lookup {G : Gc} {A : AS} {H : Hp} (f : Str) : ∀ {fs : List (Str × V)} {ds : List (Str × D)}, fs.map (·.1) = ds.map (·.1) → FzL G A H (fs.map (·.2)) (ds.map (·.2)) → (fs.lookup f = none ∧ fld ds f = none) ∨ ∃ v d, fs.lookup f = some v ∧ fld ds f = some d ∧ Fz G A H v d
  | [], [], _, _ => .inl ⟨rfl, rfl⟩
  | [], _ :: _, h, _ => by cases h
  | _ :: _, [], h, _ => by cases h
  | (a, v) :: fs, (b, d) :: ds, h, l => by
    rw [List.map_cons, List.map_cons, List.cons.injEq] at h
    obtain ⟨h1, h2⟩ := h
    have h1' : a = b := h1
    subst h1'
    rw [List.map_cons, List.map_cons] at l
    cases l with
    | cons l1 l2 =>
      by_cases e : f = a
      · subst e
        right
        exact ⟨v, d, by simp [List.lookup], by simp [fld], l1⟩
      · have e1 : (f == a) = false := by simpa using e
        have e2 : ¬ a = f := fun q => e q.symm
        have q1 : List.lookup f ((a, v) :: fs) = List.lookup f fs := by simp [List.lookup, e1]
        have q2 : fld ((a, d) :: ds) f = fld ds f := by simp [fld, e2]
        rw [q1, q2]
        exact fld_lookup f h2 l2
theorem fz_obj {A : AS} {H : Hp} {v : V} {cn : Str} {ds : List (Str × D)} (h : Fz F.G A H v (.obj cn ds)) : ∃ a dx fs, v = .ref a ∧ ¬ A a ∧ H a = some (.ins (F.G.ga cn) dx fs) ∧ fs.map (·.1) = ds.map (·.1) ∧ FzL F.G A H (fs.map (·.2)) (ds.map (·.2)) := by
  cases h with
  | obj n e ek l => exact ⟨_, _, _, rfl, n, e, ek, l⟩
theorem sx_att (g : Gd X F E) (cn : Str) {f : Str} (hc : Cls X.K (F.G.ga cn)) (hn : NoAttr X.K (F.G.ga cn) f) (ha : SX X F E Γ a ia) (hb : attributeBase a f X.env (eval a X.env) = eval a X.env := by rfl) : SX X F E Γ (.Attribute a f pos) (.att cn ia f) :=
  PEimp (pe_fld ha hb) fun σ H Q h => by
    obtain ⟨Z, ow, s, K, R, hf, hq⟩ := h
    refine ⟨Z, ow, s, _, R, hf, fun r s1 v1 H1 ow1 k1 rr e1 => ?_⟩
    obtain ⟨R1, z⟩ := rr.fz' R
    cases hd : r.d with
    | obj c' ds =>
      rw [hd] at k1 z
      have k1' : c' = cn ∧ (match fld ds f with
        | some x => K (.fz x) s1
        | none => False) := k1
      obtain ⟨rfl, k1'⟩ := k1'
      obtain ⟨p, dx, fs, rfl, np, e, ek, l⟩ := fz_obj z
      rcases fld_lookup f ek l with ⟨_, q⟩ | ⟨v, d, q1, q2, z2⟩
      · rw [q] at k1'; exact k1'.elim
      · rw [q2] at k1'
        exact ⟨p, _, dx, fs, v, rfl, e, hc, hn, q1, hq _ s1 _ H1 ow1 k1' ⟨R1, z2⟩ e1⟩
    | _ => rw [hd] at k1; exact k1.elim
/-- o.m(e, ..) -/
theorem sx_mth (g : Gd X F E) (cn : Str) {k : Nat} {m : Str} {con : Con} {dfl : List D} {nd : Nat} {o : Expr} {io : Ex} {es : List Expr} {is : List Ex} {apos : Pos} (e : MtE X.prog X.w X.K X.mg X.base F.G k cn m con dfl nd) (hr : RoomG k X.A) (hΓ : Γ.mth cn m = some (.pl con false dfl)) (ho : SX X F E Γ o io) (ha : ABX X F E Γ (a :: es) is)
    (hpe : ∀ {f fd ps dvs ds} (c : Cls X.K (F.G.ga cn)) (hm : Meth X.K (F.G.ga cn) m f) (ok : FnOg X.prog X.w X.K X.mg X.base (L2.CX X.prog X.w) k f fd ps (liftSp F.G ps.length con)) (hb : Binds X.K fd ps ds) (hd : Vals dvs ds), PE X (.Call (.Attribute o m apos) (a :: es) [] pos) (tMethx (F.G.ga cn) m (liftSp F.G ps.length con) dvs (WE (wx F E)) (LR F E (evP Γ io).r) (LBs F E (evB Γ is)))) :
    SX X F E Γ (.Call (.Attribute o m apos) (a :: es) [] pos) (.mth cn io m is nd) := by
  obtain ⟨f, fd, ps, dvs, ds, ok, hcl, hmt, hb, hd, hlen, hdf⟩ := e.ok
  refine PEimp (hpe hcl hmt ok hb hd) fun σ H Q h => ?_
  obtain ⟨Z, ow, s, K, R, hf, hq⟩ := h
  refine ⟨Z, ow, s, _, R, hf, fun r s1 v1 H1 ow1 k1 rr e1 => ?_⟩
  obtain ⟨R1, z⟩ := rr.fz' R
  cases hd : r.d with
  | obj c' ds =>
    rw [hd] at k1 z
    obtain ⟨⟨rfl, hfl⟩, k1⟩ := (show (c' = cn ∧ fld ds m = none) ∧ callE (Γ.mth cn m) [some (.obj cn ds)] (evA Γ is) (evB Γ is) nd s1 K E from k1)
    rw [hΓ] at k1
    obtain ⟨p, dx, fs, e0, np, e, ek, l⟩ := fz_obj z
    have hlk : fs.lookup m = none := by
      rcases fld_lookup m ek l with ⟨q, _⟩ | ⟨_, _, _, q, _⟩
      · exact q
      · rw [hfl] at q; cases q
    refine ⟨p, dx, fs, e0, e, hlk, Z, ow1, s1, _, R1, k1, fun xs s2 vs H2 ow2 w2 R2 a2 e2 => ?_⟩
    exact lift_of g.tb R2 (lent0 _ _) (.inl rfl) ((ArgsOk.d (R1.fz e2 z) (a2.append (hdf _ _ _))).mono fun _ z => lentA0 z) hlen w2 fun r s' v H' ow' k rr e => hq r s' v H' ow' k (rr.back (e1.trans e2).dm) ((e1.trans e2).trans e)
  | _ => rw [hd] at k1; exact k1.elim
end
end PP
set_option Elab.async false
set_option linter.all false
set_option maxRecDepth 100000
set_option maxHeartbeats 2000000
namespace PP
open PySem L2
theorem Gd.blk {X : Cx} {F : Fm} {E : XC} (g : Gd X F E) {s : Shared} {H : Hp} {scope : Scope} {cenv : PySem.Env} {fp : List Addr} : Gd (X.blk s H scope cenv fp) F noX := ⟨g.hK, g.calm, g.nd, g.u, g.gs, takes_no, g.tb⟩
section
variable {X : Cx} {F : Fm} {E : XC} {Γ : Env} {a b c tg : Expr} {ia ib ic : Ex} {pos : Pos}
/-- o.join(e), o a text that is written -/
theorem sx_join (g : Gd X F E) {z : Str} {k : Nat} {zp apos : Pos} (hb : VX X F E Γ b ib) (hs : starEach [b] X.env = [(false, eval b X.env)] := by rfl) (hbase : attributeBase (.Constant (.str z) k zp) "join" X.env (eval (.Constant (.str z) k zp) X.env) = eval (.Constant (.str z) k zp) X.env := by rfl) (hline : (apos.endLine == pos.line) = true := by rfl) :
    SX X F E Γ (.Call (.Attribute (.Constant (.str z) k zp) "join" apos) [b] [] pos) (.join (.str z) ib) := PEimp (pe_join pe_str hb hs hbase hline) fun σ H Q h => by
  obtain ⟨Z, ow, s, K, R, hf, hq⟩ := h
  refine ⟨⟨z, rfl⟩, Z, ow, s, _, R, hf, fun x s1 v1 H1 ow1 k1 R1 o1 e1 => ?_⟩
  obtain ⟨d, w, hx⟩ := res_ok R1 o1 k1
  cases d with
  | lst xs =>
    obtain ⟨p, vs, rfl, e, l⟩ := hx
    have w' : (match asStrs xs with
      | some ys => (ys.map (·.length)).sum + ys.length * z.length ≤ 16777216 ∧ K (.fz (.str (Txt.join z ys))) s1
      | none => False) := w
    cases q : asStrs xs with
    | none => rw [q] at w'; exact w'.elim
    | some ys =>
      rw [q] at w'
      rw [asStrs_eq q] at l
      rw [fzl_strs l] at e
      exact ⟨z, p, ys, rfl, rfl, .inl (SqL.of e), w'.1, hq _ _ _ _ _ w'.2 (rr_sc R1 (.str _) rfl |>.back e1.dm) e1⟩
  | _ => exact w.elim
theorem ownL_of {s : S} {i : Nat} {o : Option Int} {K : R → S → Prop} (w : qPop i o s K E) : (∃ xs, gt s.sl i = some (.own xs)) ∨ ∃ xs, gt s.sl i = some (.io xs) := by
  have w' : (match gt s.sl i with
    | some (.own xs) => (match popL xs o with
      | some (x, ys) => K (.fz x) { s with sl := pt s.sl i (some (.own ys)) }
      | none => False)
    | some (.io xs) => (match popL xs o with
      | some (x, ys) => K (.fz x) { s with sl := pt s.sl i (some (.io ys)) }
      | none => False)
    | _ => False) := w
  cases h : gt s.sl i with
  | none => rw [h] at w'; exact w'.elim
  | some q => cases q with
    | own xs => exact .inl ⟨xs, rfl⟩
    | io xs => exact .inr ⟨xs, rfl⟩
    | fz _ => rw [h] at w'; exact w'.elim
    | ownd _ => rw [h] at w'; exact w'.elim
    | stm => rw [h] at w'; exact w'.elim
    | fn _ _ _ => rw [h] at w'; exact w'.elim
    | ini _ _ => rw [h] at w'; exact w'.elim
    | df _ => rw [h] at w'; exact w'.elim
/-- xs.pop(e), xs a slot -/
theorem sx_pop (g : Gd X F E) (i : Nat) {x : Str} {px apos : Pos} (ha : SX X F E Γ a ia) (hi : X.N[i]? = some x := by rfl) (hv : Vis X.env.scope x := by first | exact Or.inl rfl | exact Or.inr (Or.inl rfl) | exact Or.inr (Or.inr rfl)) (hd : (x == ("__debug__" : Str)) = false := by decide) (hcd : (x == ("__classdict__" : Str)) = false := by decide)
    (hbase : attributeBase (.Name x px) "pop" X.env (eval (.Name x px) X.env) = eval (.Name x px) X.env := by rfl)
    (hfew : ((backTo pos (starEach [a] X.env)).all (fun x => !x.1) && (backToKw pos (keywordEach [] X.env)).all (fun x => x.1.isSome)
      && decide (([a] : List Expr).length + ([] : List Keyword).length + (if ([] : List Keyword).isEmpty then 0 else 1) < 30)) = true := by rfl)
    (hline : (apos.endLine == pos.line) = true := by rfl) (hs : starEach [a] X.env = (false, eval a X.env) :: starEach [] X.env := by rfl) :
    SX X F E Γ (.Call (.Attribute (.Name x px) "pop" apos) [a] [] pos) (.pop i (some ia)) :=
  PEimp (pe_bm PySem.F.plainAttrs_list PySem.F.slot_list_pop PySem.F.type_list_pop mt_popAt (pe_var hi hv hd hcd) (pa_cons ha pa_nil hs) hbase hfew hline hs rfl) fun σ H Q h => by
    obtain ⟨Z, ow, s, K, R, hf, hq⟩ := h
    obtain ⟨ho, w⟩ := has_own (show qHas i s (fun _ s => (bnd (toD (evP Γ ia).r) fun d => bnd (asInt d) fun j => need (-(2 ^ 63) ≤ j ∧ j < 2 ^ 63) (qPop i (some j))) s K E) E from hf)
    obtain ⟨p, vs, xs, hp, hH, l, hk, mu⟩ := R.ownL ho
    refine ⟨.ref p, hp, .inl ⟨rfl, _, SqL.of hH⟩, Z, ow, s, _, R, w, fun r s1 v1 H1 ow1 w1 rr e1 => ?_⟩
    obtain ⟨R1, z1⟩ := rr.fz' R
    cases hd : r.d with
    | int j =>
      rw [hd] at w1 z1
      cases z1
      obtain ⟨⟨b1, b2⟩, w1⟩ := (show (-(2 ^ 63) ≤ j ∧ j < 2 ^ 63) ∧ qPop i (some j) s1 K E from w1)
      obtain ⟨p1, vs1, xs1, hp1, hH1, l1, hk1, mu1⟩ := R1.ownL (ownL_of w1)
      rw [hp] at hp1; cases hp1
      have step : ∀ (q : List D → PP.P), (match popL xs1 (some j) with
          | some (x, ys) => K (.fz x) { s1 with sl := pt s1.sl i (some (q ys)) }
          | none => False) → ∃ n x v, ixN xs1.length j = some n ∧ xs1[n]? = some x ∧ vs1[n]? = some v ∧ Fz F.G (Av' Z ow1) H1 v x ∧ K (.fz x) { s1 with sl := pt s1.sl i (some (q (xs1.eraseIdx n))) } := by
        intro q w
        unfold popL at w
        dsimp only at w
        cases hx : ixN xs1.length j with
        | none => rw [hx] at w; exact w.elim
        | some n =>
          rw [hx] at w
          dsimp only at w
          cases hn : xs1[n]? with
          | none => rw [hn] at w; exact w.elim
          | some x =>
            rw [hn] at w
            obtain ⟨v, hv, z⟩ := l1.getD hn
            exact ⟨n, x, v, rfl, hn, hv, z, w⟩
      have w1' : (match gt s1.sl i with
        | some (.own xs) => (match popL xs (some j) with
          | some (x, ys) => K (.fz x) { s1 with sl := pt s1.sl i (some (.own ys)) }
          | none => False)
        | some (.io xs) => (match popL xs (some j) with
          | some (x, ys) => K (.fz x) { s1 with sl := pt s1.sl i (some (.io ys)) }
          | none => False)
        | _ => False) := w1
      rcases hk1 with hk1 | hk1
      · rw [hk1] at w1'
        obtain ⟨n, x, v, hn, _, hv, z, w2⟩ := step .own w1'
        have q := ixN_seq (n := vs1.length) (by rw [l1.length]; exact hn)
        refine ⟨p, vs1, j, n, v, rfl, rfl, hH1, b1, b2, q.1, hv, ?_⟩
        obtain ⟨R2, e2⟩ := mu1 (vs1.eraseIdx n) (xs1.eraseIdx n) (l1.eraseIdx n) (.own (xs1.eraseIdx n)) (fun _ => rfl) (fun q => by rw [hk1] at q; cases q)
        exact hq _ _ _ _ _ w2 ⟨R2, R1.fz e2 z⟩ (e1.trans e2)
      · rw [hk1] at w1'
        obtain ⟨n, x, v, hn, _, hv, z, w2⟩ := step .io w1'
        have q := ixN_seq (n := vs1.length) (by rw [l1.length]; exact hn)
        refine ⟨p, vs1, j, n, v, rfl, rfl, hH1, b1, b2, q.1, hv, ?_⟩
        obtain ⟨R2, e2⟩ := mu1 (vs1.eraseIdx n) (xs1.eraseIdx n) (l1.eraseIdx n) (.io (xs1.eraseIdx n)) (fun q => by rw [hk1] at q; cases q) (fun _ => rfl)
        exact hq _ _ _ _ _ w2 ⟨R2, R1.fz e2 z⟩ (e1.trans e2)
    | _ => rw [hd] at w1; exact w1.elim
/-- xs.extend(e), xs a slot -/
theorem ss_ext (g : Gd X F E) (i : Nat) {x : Str} {px apos cpos : Pos} (ha : SX X F E Γ a ia) (hi : X.N[i]? = some x := by rfl) (hv : Vis X.env.scope x := by first | exact Or.inl rfl | exact Or.inr (Or.inl rfl) | exact Or.inr (Or.inr rfl)) (hd : (x == ("__debug__" : Str)) = false := by decide) (hcd : (x == ("__classdict__" : Str)) = false := by decide)
    (hbase : attributeBase (.Name x px) "extend" X.env (eval (.Name x px) X.env) = eval (.Name x px) X.env := by rfl)
    (hfew : ((backTo cpos (starEach [a] X.env)).all (fun x => !x.1) && (backToKw cpos (keywordEach [] X.env)).all (fun x => x.1.isSome)
      && decide (([a] : List Expr).length + ([] : List Keyword).length + (if ([] : List Keyword).isEmpty then 0 else 1) < 30)) = true := by rfl)
    (hline : (apos.endLine == cpos.line) = true := by rfl) (hs : starEach [a] X.env = (false, eval a X.env) :: starEach [] X.env := by rfl) (hsw : swapsWith (.Call (.Attribute (.Name x px) "extend" apos) [a] [] cpos) none pos.line X.env = pure false := by rfl) :
    SSX X F E Γ (.Expr (.Call (.Attribute (.Name x px) "extend" apos) [a] [] cpos) pos) (.ext i ia) :=
  PSimp (ps_expr (pe_bm PySem.F.plainAttrs_list PySem.F.slot_list_extend PySem.F.type_list_extend mt_extend (pe_var hi hv hd hcd) (pa_cons ha pa_nil hs) hbase hfew hline hs rfl) hsw) fun D σ H h => by
    obtain ⟨ow, s, n, R, w, he, ct⟩ := h
    subst he
    obtain ⟨ho, w⟩ := has_own (show qHas i s (fun _ s => bnd (toD (evP Γ ia).r) (qExt i) s (fun _ s1 => n.nx s1) n.ex) n.ex from w)
    obtain ⟨p, vs, xs, hp, hH, l, hk, mu⟩ := R.ownL ho
    refine ⟨.ref p, hp, .inl ⟨rfl, _, SqL.of hH⟩, F.Z0, ow, s, _, R, w, fun r s1 v1 H1 ow1 w1 rr e1 => ?_⟩
    obtain ⟨R1, z1⟩ := rr.fz' R
    have w1' : (match gt s1.sl i, r.d with
      | some (.own xs), .lst ys => xs.length + ys.length ≤ sizeLine ∧ n.nx { s1 with sl := pt s1.sl i (some (.own (xs ++ ys))) }
      | some (.io xs), .lst ys => xs.length + ys.length ≤ sizeLine ∧ n.nx { s1 with sl := pt s1.sl i (some (.io (xs ++ ys))) }
      | _, _ => False) := w1
    have ho1 : ((∃ xs, gt s1.sl i = some (.own xs)) ∨ ∃ xs, gt s1.sl i = some (.io xs)) ∧ ∃ ys, r.d = .lst ys := by
      cases q : gt s1.sl i with
      | none => rw [q] at w1'; exact w1'.elim
      | some q' =>
        rw [q] at w1'
        cases q' with
        | own xs =>
          cases hr : r.d with
          | lst ys => exact ⟨.inl ⟨xs, rfl⟩, ys, rfl⟩
          | _ => rw [hr] at w1'; exact w1'.elim
        | io xs =>
          cases hr : r.d with
          | lst ys => exact ⟨.inr ⟨xs, rfl⟩, ys, rfl⟩
          | _ => rw [hr] at w1'; exact w1'.elim
        | fz _ => exact w1'.elim
        | ownd _ => exact w1'.elim
        | stm => exact w1'.elim
        | fn _ _ _ => exact w1'.elim
        | ini _ _ => exact w1'.elim
        | df _ => exact w1'.elim
    obtain ⟨ho1, ys, hr⟩ := ho1
    rw [hr] at w1' z1
    obtain ⟨b, us, rfl, nb, hb, lb⟩ := fz_lst z1
    obtain ⟨p1, vs1, xs1, hp1, hH1, l1, hk1, mu1⟩ := R1.ownL ho1
    rw [hp] at hp1; cases hp1
    rcases hk1 with hk1 | hk1
    · rw [hk1] at w1'
      refine ⟨p, b, vs1, us, rfl, rfl, hH1, hb, by rw [l1.length, lb.length]; exact w1'.1, ?_⟩
      obtain ⟨R2, e2⟩ := mu1 (vs1 ++ us) (xs1 ++ ys) (l1.append lb) (.own (xs1 ++ ys)) (fun _ => rfl) (fun q => by rw [hk1] at q; cases q)
      exact ct.nx _ σ _ ow1 w1'.2 R2 (e1.trans e2) rfl
    · rw [hk1] at w1'
      refine ⟨p, b, vs1, us, rfl, rfl, hH1, hb, by rw [l1.length, lb.length]; exact w1'.1, ?_⟩
      obtain ⟨R2, e2⟩ := mu1 (vs1 ++ us) (xs1 ++ ys) (l1.append lb) (.io (xs1 ++ ys)) (fun q => by rw [hk1] at q; cases q) (fun _ => rfl)
      exact ct.nx _ σ _ ow1 w1'.2 R2 (e1.trans e2) rfl
/-- o.m() -/
theorem sx_mth0 (g : Gd X F E) (cn : Str) {k : Nat} {m : Str} {con : Con} {dfl : List D} {nd : Nat} {o : Expr} {io : Ex} {apos : Pos} (e : MtE X.prog X.w X.K X.mg X.base F.G k cn m con dfl nd) (hr : RoomG k X.A) (hΓ : Γ.mth cn m = some (.pl con false dfl)) (ho : SX X F E Γ o io)
    (hpe : ∀ {f fd ps dvs ds} (c : Cls X.K (F.G.ga cn)) (hm : Meth X.K (F.G.ga cn) m f) (ok : FnOg X.prog X.w X.K X.mg X.base (L2.CX X.prog X.w) k f fd ps (liftSp F.G ps.length con)) (hb : Binds X.K fd ps ds) (hd : Vals dvs ds), PE X (.Call (.Attribute o m apos) [] [] pos) (tMethx (F.G.ga cn) m (liftSp F.G ps.length con) dvs (WE (wx F E)) (LR F E (evP Γ io).r) tNil)) :
    SX X F E Γ (.Call (.Attribute o m apos) [] [] pos) (.mth cn io m [] nd) := by
  obtain ⟨f, fd, ps, dvs, ds, ok, hcl, hmt, hb, hd, hlen, hdf⟩ := e.ok
  refine PEimp (hpe hcl hmt ok hb hd) fun σ H Q h => ?_
  obtain ⟨Z, ow, s, K, R, hf, hq⟩ := h
  refine ⟨Z, ow, s, _, R, hf, fun r s1 v1 H1 ow1 k1 rr e1 => ?_⟩
  obtain ⟨R1, z⟩ := rr.fz' R
  cases hd : r.d with
  | obj c' ds =>
    rw [hd] at k1 z
    obtain ⟨⟨rfl, hfl⟩, k1⟩ := (show (c' = cn ∧ fld ds m = none) ∧ callE (Γ.mth cn m) [some (.obj cn ds)] (evA Γ []) (evB Γ []) nd s1 K E from k1)
    rw [hΓ] at k1
    obtain ⟨p, dx, fs, e0, np, e, ek, l⟩ := fz_obj z
    have hlk : fs.lookup m = none := by
      rcases fld_lookup m ek l with ⟨q, _⟩ | ⟨_, _, _, q, _⟩
      · exact q
      · rw [hfl] at q; cases q
    refine ⟨p, dx, fs, e0, e, hlk, ?_⟩
    exact lift_of g.tb R1 (lent0 _ _) (.inl rfl) ((ArgsOk.d z (ArgsOk.append .nil (hdf _ _ _))).mono fun _ z => lentA0 z) hlen k1 fun r s' v H' ow' k rr e => hq r s' v H' ow' k (rr.back e1.dm) (e1.trans e)
  | _ => rw [hd] at k1; exact k1.elim
/-- C(e, ..) -/
theorem sx_mk (g : Gd X F E) {k : Nat} {x : Str} {con : Con} {dfl : List D} {nd : Nat} {es : List Expr} {is : List Ex} {p : Pos} (e : MkE X.prog X.w X.K X.mg X.base F.G k x con dfl nd) (hr : RoomG (k + 1) X.A) (hΓ : Γ.fn x = some (.pl con false dfl)) (ha : ABX X F E Γ (a :: es) is)
    (hpe : ∀ {f fd ps spI dvs ds} (M : Mk X.K (F.G.ga x) f) (ok : FnOg X.prog X.w X.K X.mg X.base (L2.CX X.prog X.w) k f fd ps spI) (hm : X.mg x = some (.ref (F.G.ga x))) (hb : Binds X.K fd ps ds) (hd : Vals dvs ds), PE X (.Call (.Name x p) (a :: es) [] pos) (tMakex (F.G.ga x) spI dvs (WE (wx F E)) (LBs F E (evB Γ is)))) :
    SX X F E Γ (.Call (.Name x p) (a :: es) [] pos) (.call x is nd) := by
  obtain ⟨f, fd, ps, spI, dvs, ds, ok, M, hm, hb, hd, imp⟩ := e.ok
  refine PEimp (hpe M ok hm hb hd) fun σ H Q h => ?_
  obtain ⟨Z, ow, s, K, R, hf, hq⟩ := h
  have hf : (callE (Γ.fn x) [] (evA Γ is) (evB Γ is) nd) s K E := hf
  rw [hΓ] at hf
  refine ⟨Z, ow, s, _, R, hf, fun xs s1 vs H1 ow1 w1 R1 a1 e1 => ?_⟩
  refine imp vs H1 Q _ ⟨F.T, lentA Z ow1 [], xs, s1.c, _, _, R1.strm, fun a z => ⟨.inl (R1.zs a z), fun ⟨_, h, _⟩ => (by cases h)⟩, g.tb, fun a z => R1.avT z.1, a1.mono fun _ z => lentA0 z, w1, fun r c' v H' k kp st rr => ?_, fun xn c' cls d H' k kp st xi => err_called R1 (lent0 _ _) (.inl rfl) k kp st xi⟩
  exact hq r _ v H' ow1 k.2 ((rr_called R1 (lent0 _ _) kp st rr (.inl rfl)).back e1.dm) (e1.trans (Eff.called R1 (lent0 _ _) kp st))
end
end PP
set_option Elab.async false
set_option linter.all false
set_option maxRecDepth 100000
set_option maxHeartbeats 2000000
namespace PP
open PySem L2
inductive ArgsAt (G : Gc) (T : SA) (A : AS) (H : Hp) (v0 : V) : Nat → List V → List (Option D) → Prop
  | here {vs : List V} {as : List (Option D)} : ArgsOk G T A H vs as → ArgsAt G T A H v0 0 (v0 :: vs) (none :: as)
  | st {n : Nat} {vs : List V} {as : List (Option D)} : ArgsAt G T A H v0 n vs as → ArgsAt G T A H v0 (n + 1) (.ref T.s :: vs) (none :: as)
  | d {n : Nat} {v : V} {d : D} {vs : List V} {as : List (Option D)} : Fz G A H v d → ArgsAt G T A H v0 n vs as → ArgsAt G T A H v0 (n + 1) (v :: vs) (some d :: as)
section
variable {G : Gc} {T : SA} {A B : AS} {H : Hp} {v0 : V}
theorem ArgsAt.length : ∀ {n : Nat} {vs : List V} {as : List (Option D)}, ArgsAt G T A H v0 n vs as → vs.length = as.length
  | _, _, _, .here h => by simp [h.length]
  | _, _, _, .st h => by simp [h.length]
  | _, _, _, .d _ h => by simp [h.length]
theorem ArgsAt.at : ∀ {n : Nat} {vs : List V} {as : List (Option D)}, ArgsAt G T A H v0 n vs as → vs[n]? = some v0
  | _, _, _, .here h => rfl
  | _, _, _, .st h => by simpa using h.at
  | _, _, _, .d _ h => by simpa using h.at
theorem ArgsAt.mono (s : ∀ a, B a → A a) : ∀ {n : Nat} {vs : List V} {as : List (Option D)}, ArgsAt G T A H v0 n vs as → ArgsAt G T B H v0 n vs as
  | _, _, _, .here h => .here (h.mono s)
  | _, _, _, .st h => .st (h.mono s)
  | _, _, _, .d z h => .d (z.mono fun a q => .inl (s a q)) (h.mono s)
theorem at_slot0 : ∀ {n : Nat} {vs : List V} {as : List (Option D)} {i : Nat} {p : P}, ArgsAt G T A H v0 n vs as → i ≠ n → ((as.map slotOf)[i]?).join = some p → ∃ v, vs[i]? = some v ∧ ((p = .stm ∧ v = .ref T.s) ∨ ∃ d, p = .fz d ∧ Fz G A H v d)
  | _, _, _, i, p, .here (vs := vs) (as := as) h, hi, e => by
    cases i with
    | zero => exact absurd rfl hi
    | succ i =>
      have e' : gt (startS as.length as) i = some p := by
        rw [gt_eq]
        unfold startS
        rw [Nat.sub_self, List.replicate_zero, List.append_nil]
        simpa using e
      simpa using args_slot h e'
  | _, _, _, i, p, .st h, hi, e => by
    cases i with
    | zero => simp [slotOf] at e; subst e; exact ⟨_, rfl, .inl ⟨rfl, rfl⟩⟩
    | succ i => simpa using at_slot0 (i := i) h (fun q => hi (by rw [q])) (by simpa using e)
  | _, _, _, i, p, .d z h, hi, e => by
    cases i with
    | zero => simp [slotOf] at e; subst e; exact ⟨_, rfl, .inr ⟨_, rfl, z⟩⟩
    | succ i => simpa using at_slot0 (i := i) h (fun q => hi (by rw [q])) (by simpa using e)
theorem at_slot {n m : Nat} {vs : List V} {as : List (Option D)} {i : Nat} {p : P} (h : ArgsAt G T A H v0 n vs as) (hi : i ≠ n) (e : gt (startS m as) i = some p) : ∃ v, vs[i]? = some v ∧ ((p = .stm ∧ v = .ref T.s) ∨ ∃ d, p = .fz d ∧ Fz G A H v d) := by
  rw [gt_eq] at e
  unfold startS at e
  by_cases hl : i < as.length
  · rw [List.getElem?_append_left (by simpa using hl)] at e
    exact at_slot0 h hi e
  · rw [List.getElem?_append_right (by simpa using hl), List.getElem?_replicate] at e
    split at e <;> simp at e
end
/-- a value that is new -/
def nwA (v : V) : R → AS
  | .fz _ => fun _ => False
  | _ => fun a => v = .ref a
def liftIO (G : Gc) (np ix : Nat) (con : ConIO) : Sp := fun vs H Q _ => vs.length = np ∧ ∃ (T : SA) (A : AS) (as : List (Option D)) (c : Stm) (K : R → List D → Stm → Prop) (b : Addr) (us : List V) (xs : List D), StrOk T H c ∧ (∀ a, T.A a → A a) ∧ T.tb = G.tb ∧ (∀ a, A a → NT (H a)) ∧ ¬ A b ∧ H b = some (.lst us) ∧ FzL G (add A b) H us xs ∧
  ArgsAt G T (add A b) H (.ref b) ix vs as ∧ con as xs c K noXc ∧
  ∀ r ys c' v H' us', K r ys c' → Keep (add T.A b) A H H' → StrOk T H' c' → H' b = some (.lst us') → FzL G (fun a => add A b a ∨ nwA v r a) H' us' ys → RRc G (add A b) H H' v r → Q v H'
def atIO (ix : Nat) (s : S) (k : List D → Prop) : Prop := match gt s.sl ix with
  | some (.io ys) => k ys
  | _ => False
def ImplIO (Γ : Env) (n ix : Nat) (con : ConIO) (code : List Sx) : Prop := ∀ as xs c K, con as xs c K noXc →
  exSs Γ code ⟨fun s => atIO ix s fun ys => K (.fz .non) ys s.c, fun r s => atIO ix s fun ys => K r ys s.c, fun _ => False, fun _ => False, noX⟩ ⟨pt (startS n as) ix (some (.io xs)), c⟩
theorem start_get {N : List Str} {vs : List V} {i : Nat} {v : V} (hv : vs[i]? = some v) : (start N vs)[i]? = some (some v) := by
  have hi : i < vs.length := (List.getElem?_eq_some_iff.mp hv).1
  unfold L2.start
  rw [List.getElem?_append_left (by simpa using hi), List.getElem?_map, hv]
  rfl
theorem rep_startIO {G : Gc} {T : SA} {A : AS} {H : Hp} {vs us : List V} {as : List (Option D)} {c : Stm} {ix : Nat} {N : List Str} {b : Addr} {xs : List D} (hs : StrOk T H c) (h1 : ∀ a, T.A a → A a) (h2 : T.tb = G.tb) (hA : ∀ a, A a → NT (H a)) (hb : ¬ A b) (eb : H b = some (.lst us)) (l : FzL G (add A b) H us xs) (h : ArgsAt G T (add A b) H (.ref b) ix vs as) (hl : vs.length ≤ N.length) :
    Rep ⟨G, T, H, add T.A b, A⟩ A (setO (fun _ => none) ix b) (start N vs) H ⟨pt (startS N.length as) ix (some (.io xs)), c⟩ := by
  have lix : ix < (startS N.length as).length := by
    have : ix < vs.length := (List.getElem?_eq_some_iff.mp h.at).1
    unfold startS
    rw [h.length] at this
    simp; omega
  have sub : ∀ a, Av' A (setO (fun _ => none) ix b) a → add A b a := fun a z => by
    rcases z with z | ⟨i, z⟩
    · exact .inl z
    · rcases setO_sub z with ⟨_, rfl⟩ | ⟨_, q⟩
      · exact .inr rfl
      · cases q
  refine ⟨Keep.refl _ _ _, hs, fun _ z => .inl z, h1, fun a z => .inl z, hA, fun a z => ?_, fun i p e => ?_, fun i j p e1 e2 => ?_, fun i p e => ?_, ?_, fun i p e => ?_⟩
  · rcases z with z | rfl
    · exact .inl (h1 a z)
    · exact .inr ⟨ix, by unfold setO; rw [if_pos rfl]⟩
  · rcases setO_sub e with ⟨_, rfl⟩ | ⟨_, q⟩
    · exact hb
    · cases q
  · rcases setO_sub e1 with ⟨q1, _⟩ | ⟨_, q⟩
    · rcases setO_sub e2 with ⟨q2, _⟩ | ⟨_, q⟩
      · rw [q1, q2]
      · cases q
    · cases q
  · rcases setO_sub e with ⟨rfl, _⟩ | ⟨_, q⟩
    · exact ⟨_, gt_pt_same lix, nofun⟩
    · cases q
  · show (pt (startS N.length as) ix _).length = (start N vs).length
    rw [pt_len]
    unfold startS L2.start
    simp [h.length]
  · have e' : gt (pt (startS N.length as) ix (some (.io xs))) i = some p := e
    by_cases hi : i = ix
    · subst hi
      cases gt_pt_none e'
      refine ⟨.ref b, start_get h.at, ?_⟩
      exact ⟨b, us, rfl, by unfold setO; rw [if_pos rfl], .inr rfl, eb, l.mono fun a z => .inl (sub a z)⟩
    · rw [gt_pt_ne hi] at e'
      obtain ⟨v, hv, q⟩ := at_slot h hi e'
      refine ⟨v, start_get hv, ?_⟩
      have on : setO (fun _ => none) ix b i = none := by unfold setO; rw [if_neg hi]
      rw [on]
      rcases q with ⟨rfl, rfl⟩ | ⟨d, rfl, z⟩
      · exact ⟨rfl, rfl⟩
      · exact ⟨z.mono fun a z => .inl (sub a z), rfl⟩
section
variable {P : Program} {w : World} {K : PySem.W.Frag} {mg : Str → Option Value} {base : Heap} {x qual : Str} {params : Arguments} {body : List Stmt} {scope : Scope} {dvs : List V} {kws : List (Str × V)} {f : Addr} {fd : FuncData}
theorem atIO_ok {G : Gc} {T : SA} {A Y : AS} {H H' : Hp} {b : Addr} {ow : Ow} {σ : L2.St} {s : S} {ix : Nat} {k : List D → Prop} (R : Rep ⟨G, T, H, add T.A b, A⟩ Y ow σ H' s) (yt : ∀ a, A a → Y a) (h : ∀ a, T.A a → A a) (hb : ¬ A b) (w : atIO ix s k) : ∃ us ys, k ys ∧ ow ix = some b ∧ H' b = some (.lst us) ∧ FzL G (Av' Y ow) H' us ys := by
  have w' : (match gt s.sl ix with
    | some (.io ys) => k ys
    | _ => False) := w
  cases q : gt s.sl ix with
  | none => rw [q] at w'; exact w'.elim
  | some p =>
    rw [q] at w'
    cases p with
    | io ys =>
      obtain ⟨v, hv, a, us, _, ho, hm, e, l⟩ := R.sl ix _ q
      have ha : a = b := by
        rcases hm with hm | rfl
        · exact absurd (yt _ (h _ hm)) (R.oz ix _ ho)
        · rfl
      subst ha
      exact ⟨us, ys, w', ho, e, l⟩
    | own _ => exact w'.elim
    | fz _ => exact w'.elim
    | ownd _ => exact w'.elim
    | stm => exact w'.elim
    | fn _ _ _ => exact w'.elim
    | ini _ _ => exact w'.elim
    | df _ => exact w'.elim
theorem fn_pureIO {G : Gc} {Γ : Env} {N ps : List Str} {k ix : Nat} {con : ConIO} {code : List Sx} (F : FunD K x qual params body scope dvs kws f fd) (S : FnScope N ps scope) (hN : ps.length ≤ N.length) (hK : K = G.K)
    (hd : ∀ (cdv : Value) (A : Around) (outer : List PySem.Env) (s : Shared) (H : Hp) (E : XK) (Fm : Fm), Fm.G = G → Gd (cxOf CX0 P w K mg base N qual scope f cdv A outer s H E).nox Fm noX → RoomG k (A.deeper (PyProof.Rows.envOfC qual scope s.heap.objs.size f cdv)) →
      SBX (cxOf CX0 P w K mg base N qual scope f cdv A outer s H E).nox Fm noX Γ body code)
    (hp : ImplIO Γ N.length ix con code) : FnOg P w K mg base CX0 (k + 1) f fd ps (liftIO G ps.length ix con) := by
  refine F.okg S (fun vs H Q E h => h.1) fun cdv A outer s H vs Q E hr h => ?_
  obtain ⟨hl, T, A', as, c, K', b, us, xs, hs, h1, h2, hA, hb, eb, l, ha, hc, kq⟩ := h
  refine ⟨_, PSs.nox (hd cdv A outer s H E ⟨G, T, H, add T.A b, A'⟩ rfl ⟨hK, rfl, S.nd, hr.units, hr.g, takes_no, h2⟩ hr), ?_⟩
  have R0 := rep_startIO (N := N) hs h1 h2 hA hb eb l ha (by rw [hl]; exact hN)
  refine ⟨setO (fun _ => none) ix b, _, _, R0, hp as xs c K' hc, rfl, ⟨fun s' σ' H' ow' w R e _ => ?_, fun _ _ _ _ w => w.elim, fun _ _ _ _ w => w.elim, fun r s' v σ' H' ow' w R e => ?_⟩⟩
  · obtain ⟨us', ys, w, ho, e1, l1⟩ := atIO_ok R (fun _ z => z) h1 hb w
    have sub : ∀ a, add A' b a → Av' A' ow' a ∨ H' a = none := fun a z => .inl (by rcases z with z | rfl; exact .inl z; exact .inr ⟨ix, ho⟩)
    exact kq (.fz .non) ys s'.c _ H' us' w R.keep R.strm e1 (l1.mono fun a z => sub a (z.elim id fun q => q.elim)) .non
  · cases r with
    | fz d =>
      obtain ⟨us', ys, w, ho, e1, l1⟩ := atIO_ok R.1 (fun _ z => z) h1 hb w
      have sub : ∀ a, add A' b a → Av' A' ow' a ∨ H' a = none := fun a z => .inl (by rcases z with z | rfl; exact .inl z; exact .inr ⟨ix, ho⟩)
      exact kq _ ys s'.c _ H' us' w R.1.keep R.1.strm e1 (l1.mono fun a z => sub a (z.elim id fun q => q.elim)) (R.2.mono sub)
    | nl zs =>
      obtain ⟨p, vs', rfl, _, nz, nm, h0, R, ep, l'⟩ := R
      obtain ⟨us', ys, w, ho, e1, l1⟩ := atIO_ok R (fun _ z => .inl z) h1 hb w
      have sub : ∀ a, add A' b a → Av' (add A' p) ow' a := fun a z => by
        rcases z with z | rfl
        · exact .inl (.inl z)
        · exact .inr ⟨ix, ho⟩
      exact kq _ ys s'.c _ H' us' w R.keep R.strm e1 (l1.mono fun a z => .inl (z.elim (sub a) fun q => by cases q; exact .inl (.inr rfl))) ⟨p, vs', rfl, h0, ep, l'.mono fun a z => .inl (by rcases z with z | rfl; exact sub a z; exact .inl (.inr rfl))⟩
    | nd zs =>
      obtain ⟨p, vs', rfl, _, nz, nm, h0, R, ep, ek, l'⟩ := R
      obtain ⟨us', ys, w, ho, e1, l1⟩ := atIO_ok R (fun _ z => .inl z) h1 hb w
      have sub : ∀ a, add A' b a → Av' (add A' p) ow' a := fun a z => by
        rcases z with z | rfl
        · exact .inl (.inl z)
        · exact .inr ⟨ix, ho⟩
      exact kq _ ys s'.c _ H' us' w R.keep R.strm e1 (l1.mono fun a z => .inl (z.elim (sub a) fun q => by cases q; exact .inl (.inr rfl))) ⟨p, vs', rfl, h0, ep, ek, l'.mono fun a z => .inl (by rcases z with z | rfl; exact sub a z; exact .inl (.inr rfl))⟩
end
structure IoE (P : Program) (w : World) (K : PySem.W.Frag) (mg : Str → Option Value) (base : Heap) (G : Gc) (k : Nat) (x : Str) (ix : Nat) (con : ConIO) : Prop where
  ok : ∃ f fd ps, FnOg P w K mg base CX0 k f fd ps (liftIO G ps.length ix con) ∧ mg x = some (.ref f) ∧ PySem.W.keepIn K (.ref f) = true ∧ Binds K fd ps [] ∧ (∀ as xs c K, con as xs c K noXc → as.length = ps.length)
def LIOs (F : Fm) (E : XC) (f : M (List (Option D))) (i n : Nat) : TA := fun σ H Q => ∃ Z ow s K, Rep F Z ow σ H s ∧ f s K E ∧ ∀ xs s' vs H' ow', K xs s' → Rep F Z ow' σ H' s' → (∃ v0, σ[i]? = some (some v0) ∧ ArgsAt F.G F.T (Av' Z ow') H' v0 n vs xs) → Eff F Z ow H ow' H' → Q vs H'
abbrev AIX (X : Cx) (F : Fm) (E : XC) (Γ : Env) (i n : Nat) (es : List Expr) (irs : List Ex) : Prop := PA X es (LIOs F E (evIO Γ irs n) i n)
section
variable {X : Cx} {F : Fm} {E : XC} {Γ : Env} {a b c tg : Expr} {ia ib ic : Ex} {pos : Pos}
theorem aix_here (i : Nat) {x : Str} {es : List Expr} {is : List Ex} (hr : ABX X F E Γ es is) (hN : X.N[i]? = some x := by rfl) (hv : Vis X.env.scope x := by first | exact Or.inl rfl | exact Or.inr (Or.inl rfl) | exact Or.inr (Or.inr rfl)) (hd : (x == ("__debug__" : Str)) = false := by decide)
    (hcd : (x == ("__classdict__" : Str)) = false := by decide) (hs : starEach (.Name x pos :: es) X.env = (false, eval (.Name x pos) X.env) :: starEach es X.env := by rfl) : AIX X F E Γ i 0 (.Name x pos :: es) (.var i :: is) :=
  PAimp (pa_cons (pe_var hN hv hd hcd) hr hs) fun σ H Q h => by
    obtain ⟨Z, ow, s, K, R, hf, hq⟩ := h
    obtain ⟨ho, w⟩ := has_own (show qHas i s (fun _ s => bnd (evB Γ is) (fun as => ret (none :: as)) s K E) E from hf)
    obtain ⟨p, vs, xs, hp, hH, l, hk, mu⟩ := R.ownL ho
    exact ⟨.ref p, hp, Z, ow, s, _, R, w, fun as s1 vs1 H1 ow1 k1 R1 a1 e1 => hq _ s1 _ H1 ow1 k1 R1 ⟨_, hp, .here a1⟩ e1⟩
theorem aix_cons (i : Nat) {n : Nat} {es : List Expr} {is : List Ex} (ha : AB1 X F E Γ a ia) (hr : AIX X F E Γ i n es is) (hs : starEach (a :: es) X.env = (false, eval a X.env) :: starEach es X.env := by rfl) : AIX X F E Γ i (n + 1) (a :: es) (ia :: is) :=
  PAimp (pa_cons ha hr hs) fun σ H Q h => by
    obtain ⟨Z, ow, s, K, R, hf, hq⟩ := h
    refine ⟨Z, ow, s, _, R, hf, fun x s1 v1 H1 ow1 k1 R1 o1 e1 => ⟨Z, ow1, s1, _, R1, k1, fun y s2 v2 H2 ow2 k2 R2 o2 e2 => hq (x :: y) s2 (v1 :: v2) H2 ow2 k2 R2 ?_ (e1.trans e2)⟩⟩
    obtain ⟨v0, h0, o2⟩ := o2
    refine ⟨v0, h0, ?_⟩
    cases o1 with
    | st => exact .st o2
    | d z => exact .d (R1.fz e2 z) o2
/-- behind such a call -/
theorem Rep.calledIO {Z Y : AS} {ow : Ow} {σ : L2.St} {H H' : Hp} {s : S} {i : Nat} {p : Addr} {us' : List V} {ys : List D} {c' : Stm} (R : Rep F Z ow σ H s) (ho : ow i = some p) (nm : ¬ F.md p) (n0 : F.H0 p = none) (hv : σ[i]? = some (some (.ref p))) (hlt : i < s.sl.length) (k : Keep (add F.T.A p) (lentA Z ow [i]) H H') (hs : StrOk F.T H' c') (e' : H' p = some (.lst us'))
    (l' : FzL F.G (Av' Y ow) H' us' ys) (y1 : ∀ a, Z a → Y a) (y2 : ∀ a, Y a → Z a ∨ (H a = none ∧ NT (H' a) ∧ ¬ F.md a)) : Rep F Y ow σ H' { sl := pt s.sl i (some (.own ys)), c := c' } := by
  have tz : ∀ a, F.T.A a → Z a := R.zs
  have ztl : ∀ a, Z a → lentA Z ow [i] a := fun a z => ⟨.inl z, fun ⟨i, _, e⟩ => R.oz i a e z⟩
  have dm : ∀ a, H a ≠ none → H' a ≠ none := fun a h e => by
    by_cases q : add F.T.A p a
    · rcases q with q | rfl
      · exact hs.i q e
      · rw [e'] at e; cases e
    · exact h (k.none e q)
  have dmT : ∀ a, NT (H a) → NT (H' a) := fun a h => by
    by_cases q : add F.T.A p a
    · rcases q with q | rfl
      · exact hs.it q
      · exact .of e' nofun
    · cases e : H a with
      | none => exact absurd e h.1
      | some o =>
        obtain ⟨o', e', l, _⟩ := k a o e q
        exact h.le e e' l
  have np : ∀ j a, j ≠ i → ow j = some a → a ≠ p := fun j a hj e q => hj (R.od j i p (by rw [e, q]) ho)
  have oeq : ∀ j a, j ≠ i → ow j = some a → H' a = H a := fun j a hj e => by
    have na : ¬ add F.T.A p a := fun z => z.elim (fun z => R.oz j a e (tz a z)) fun z => np j a hj e z
    cases q : H a with
    | none => exact absurd q (R.ojn e)
    | some o => exact k.atZ q na ⟨.inr ⟨j, e⟩, fun ⟨j', hj', e2⟩ => by rw [List.mem_singleton.mp hj'] at e2; exact hj (R.od j i a e e2)⟩
  refine ⟨fun a o e m => ?_, hs, R.mds, fun a z => y1 a (R.zs a z), fun a z => (R.z0 a z).imp (y1 a) id, fun a z => ?_, fun a z => (R.mdz a z).imp (y1 a) id, fun i p e z => ?_, R.od, fun j q e => ?_, ?_, fun j q e => ?_⟩
  · obtain ⟨o1, e1, l1, z1⟩ := R.keep a o e m
    obtain ⟨o2, e2, l2, z2⟩ := k a o1 e1 (fun z => by
      rcases z with z | rfl
      · exact m (R.mds a z)
      · rw [n0] at e; cases e)
    exact ⟨o2, e2, l1.trans l2, fun z0 => (z2 (ztl a ((R.z0 a z0).elim id fun q => absurd q m))).trans (z1 z0)⟩
  · rcases y2 a z with q | q
    · exact dmT a (R.zin a q)
    · exact q.2.1
  · rcases y2 p z with q | q
    · exact R.oz i p e q
    · exact R.ojn e q.1
  · by_cases hj : j = i
    · subst hj; exact ⟨_, gt_pt_same hlt, nofun⟩
    · obtain ⟨q', hq, hn⟩ := R.oin j q e
      exact ⟨q', by show gt (pt s.sl i _) j = _; rw [gt_pt_ne hj]; exact hq, hn⟩
  · show (pt s.sl i _).length = _
    rw [pt_len]; exact R.len
  · have e2 : gt (pt s.sl i (some (.own ys))) j = some q := e
    by_cases hj : j = i
    · subst hj
      cases gt_pt_none e2
      exact ⟨_, hv, p, us', rfl, ho, nm, n0, e', l'⟩
    · rw [gt_pt_ne hj] at e2
      obtain ⟨v, hv, ok⟩ := R.sl j q e2
      exact ⟨v, hv, ok.tr (k.mono (fun a z => z.elim (fun z => .inl (tz a z)) fun z => .inr ⟨i, by rw [z]; exact ho⟩) fun _ z => z : Keep (Av' Z ow) (lentA Z ow [i]) H H') (fun a z => z.elim (fun z => (y2 a z).imp .inl fun q => q.1) fun z => .inl (.inr z)) fun a e => oeq j a hj e⟩
/-- f(e, .., x, ..): the slot's own list is changed -/
theorem sx_io (g : Gd X F E) {k ix i : Nat} {x : Str} {con : ConIO} {es : List Expr} {is : List Ex} {p : Pos} (e : IoE X.prog X.w X.K X.mg X.base F.G k x ix con) (hr : RoomG k X.A) (hΓ : Γ.fn x = some (.io ix con)) (ha : AIX X F noX Γ i ix (a :: es) is) (hi : argIO is ix = some i := by rfl)
    (hg : Gl X x := by rfl) (hdb : (x == ("__debug__" : Str)) = false := by decide) (he : starEach (a :: es) X.env = (false, eval a X.env) :: starEach es X.env := by rfl) (hpl : (backTo pos (starEach es X.env)).any (·.1) = false := by rfl) :
    SX X F noX Γ (.Call (.Name x p) (a :: es) [] pos) (.io x is) := by
  obtain ⟨f, fd, ps, ok, hm, hk, hb, hlen⟩ := e.ok
  refine PEimp (pe_callg ok hr hg hm hk hb .nil pass0 ha hdb he hpl) fun σ H Q h => ?_
  obtain ⟨Z, ow, s, K, R, hf, hq⟩ := h
  have hf : callIO Γ x is (evIO Γ is (ioIx Γ x)) s K noX := hf
  unfold callIO ioIx at hf
  rw [hΓ] at hf
  dsimp only at hf
  rw [hi] at hf
  refine ⟨Z, ow, s, _, R, hf, fun as s1 vs H1 ow1 w1 R1 a1 e1 => ?_⟩
  obtain ⟨v0, hv0, a1⟩ := a1
  dsimp only at w1
  cases hgt : gt s1.sl i with
  | none => rw [hgt] at w1; exact w1.elim
  | some q =>
    rw [hgt] at w1
    cases q with
    | own xs =>
      obtain ⟨v, hv, b, us, rfl, ho, nm, n0, eb, l⟩ := R1.sl i _ hgt
      rw [hv0] at hv; cases hv
      have s1' : ∀ a, add (lentA Z ow1 [i]) b a → Av' Z ow1 a := fun a z => by
        rcases z with z | rfl
        · exact z.1
        · exact .inr ⟨i, ho⟩
      have s2' : ∀ a, Av' Z ow1 a → add (lentA Z ow1 [i]) b a := fun a z => by
        by_cases q : a = b
        · exact .inr q
        · exact .inl ⟨z, fun ⟨j, hj, ej⟩ => by rw [List.mem_singleton.mp hj, ho] at ej; exact q (Option.some.inj ej).symm⟩
      show liftIO F.G ps.length ix con (vs ++ []) H1 Q E0
      rw [List.append_nil]
      refine ⟨by rw [a1.length]; exact hlen _ _ _ _ w1, F.T, lentA Z ow1 [i], as, s1.c, _, b, us, xs, R1.strm, fun a z => ⟨.inl (R1.zs a z), fun ⟨i, _, e⟩ => R1.oz i _ e (R1.zs a z)⟩, g.tb, fun a z => R1.avT z.1, fun z => z.2 ⟨i, by simp, ho⟩, eb, l.mono fun a z => .inl (s1' a z), a1.mono s1', w1, fun r ys c' v H2 us' kk kp st e2 l2 rr => ?_⟩
      have ef : Eff F Z ow1 H1 ow1 H2 := by
        refine ⟨fun a o e m => ?_, fun i p h => .inl ⟨i, h⟩, fun a h e => ?_⟩
        · obtain ⟨o', e', l, zz⟩ := kp a o e (fun z => m (by
            rcases z with z | rfl
            · exact .inl (R1.mds a z)
            · exact .inr ⟨i, ho⟩))
          exact ⟨o', e', l, fun z => zz ⟨.inl z, fun ⟨i, _, e⟩ => R1.oz i a e z⟩⟩
        · by_cases q : add F.T.A b a
          · rcases q with q | rfl
            · exact st.i q e
            · rw [e2] at e; cases e
          · exact h (kp.none e q)
      refine hq r _ v H2 ow1 kk ?_ (e1.trans ef)
      refine RR.back e1.dm ?_
      cases r with
      | fz d => exact ⟨R1.calledIO ho nm n0 hv0 (gt_lt hgt) kp st e2 (l2.mono fun a z => .inl (.inl (s2' a z))) (fun _ z => z) (fun _ z => .inl z), Fz.mono (fun a z => .inl (s2' a z)) rr⟩
      | nl zs =>
        obtain ⟨q, vs', rfl, hq0, eq, l'⟩ := rr
        obtain ⟨nmq, nq0, nzq⟩ := R1.new0 hq0
        have sq : ∀ a, Av' (add Z q) ow1 a → add (lentA Z ow1 [i]) b a ∨ a = q := fun a z => by
          rcases z with (z | rfl) | z
          · exact .inl (s2' a (.inl z))
          · exact .inr rfl
          · exact .inl (s2' a (.inr z))
        refine ⟨q, vs', rfl, hq0, fun z => nzq (.inl z), nmq, nq0, R1.calledIO ho nm n0 hv0 (gt_lt hgt) kp st e2 (l2.mono fun a z => .inl ((sq a z).imp id fun h => by rw [h]; rfl)) (fun a z => .inl z) (fun a z => ?_), eq, l'.mono fun a z => .inl (sq a z)⟩
        rcases z with z | rfl
        · exact .inl z
        · exact .inr ⟨hq0, .of eq nofun, nmq⟩
      | nd zs =>
        obtain ⟨q, vs', rfl, hq0, eq, ek, l'⟩ := rr
        obtain ⟨nmq, nq0, nzq⟩ := R1.new0 hq0
        have sq : ∀ a, Av' (add Z q) ow1 a → add (lentA Z ow1 [i]) b a ∨ a = q := fun a z => by
          rcases z with (z | rfl) | z
          · exact .inl (s2' a (.inl z))
          · exact .inr rfl
          · exact .inl (s2' a (.inr z))
        refine ⟨q, vs', rfl, hq0, fun z => nzq (.inl z), nmq, nq0, R1.calledIO ho nm n0 hv0 (gt_lt hgt) kp st e2 (l2.mono fun a z => .inl ((sq a z).imp id fun h => by rw [h]; rfl)) (fun a z => .inl z) (fun a z => ?_), eq, ek, l'.mono fun a z => .inl (sq a z)⟩
        rcases z with z | rfl
        · exact .inl z
        · exact .inr ⟨hq0, .of eq nofun, nmq⟩
    | io _ => exact w1.elim
    | fz _ => exact w1.elim
    | ownd _ => exact w1.elim
    | stm => exact w1.elim
    | fn _ _ _ => exact w1.elim
    | ini _ _ => exact w1.elim
    | df _ => exact w1.elim
end
end PP
set_option Elab.async false
set_option linter.all false
set_option maxRecDepth 100000
set_option maxHeartbeats 2000000
namespace PP
open PySem L2
abbrev qS (K : PySem.W.Frag) (i : Int) : TE := tOp (rIx K) (tVar 0) (tC (.int i))
abbrev qPut' (te : TE) (i : Int) : TS := tAsg te (gSub (tVar 0) (tC (.int i)) rSetL)
abbrev qA : R2 := rI0 fun i j => .int (i + j)
abbrev qMu : R2 := rI CMul fun i j => .int (i * j)
abbrev qPw : R2 := rI CPow fun i j => .int (i ^ j.toNat)
abbrev qMo : R2 := rI (fun _ j => 0 < j) fun i j => .int (i % j)
abbrev qI (t : TE) : TE := tCB (fun xs H Q => (∃ i, xs = [V.int i] ∧ Q (V.int i) H) ∨ ∃ k : Bool, xs = [V.bl k] ∧ Q (V.int (if k = true then 1 else 0)) H) (tCons t tNil)
def t_draw1 (K : PySem.W.Frag) : TS := qPut' (tOp qA (qS K 2) (tC (.int 1))) 2
def t_draw2c (K : PySem.W.Frag) : TS := tSeq (qPut' (tOp qMo (qI (tOp qA (tOp qA (tOp qMu (qS K 3) (tC (.int 31))) (qS K 1)) (tC (.int 7)))) (tC (.int 2147483647))) 3) (tSeq (qPut' (tC (.int 0)) 1) tNext)
def t_draw2b (K : PySem.W.Frag) : TS := tSeq (qPut' (tBM K "list" rPopAt (qS K 0) (tCons (tC (.int 0)) tNil)) 1)
    (tSeq (tIfS (tTest (tOp (rI0 fun i j => .bl (decide (i < j))) (qS K 1) (tOp qPw (tC (.int 10)) (tC (.int 18))))) (t_draw2c K) tNext) tNext)
def t_draw2 (K : PySem.W.Frag) : TS := tIfS (tAnd (tTest (tOp rEq (qS K 1) (tC (.int 0)))) (tTest (tOp (rNeA K) (qS K 0) (tLst tNil)))) (t_draw2b K) tNext
def t_draw3b (K : PySem.W.Frag) : TS := tSeq (tAsg (tOp qMo (qI (qS K 1)) (tVar 1)) (gName 2)) (tSeq (qPut' (tOp (rI CDivW fun i j => .int (i / j)) (qS K 1) (tVar 1)) 1) (tSeq (tRet (tVar 2)) tNext))
def t_draw3 (K : PySem.W.Frag) : TS := tIfS (tTest (tOp (rI0 fun i j => .bl (decide (j < i))) (qS K 1) (tC (.int 0)))) (t_draw3b K) tNext
def t_draw4 (K : PySem.W.Frag) : TS := tAsg (tOp qMo (tOp qPw (tOp qA (tOp qA (qS K 3) (tOp qMu (tC (.int 104729)) (qS K 2))) (tC (.int 17))) (tC (.int 5))) (tC (.int 2147483629))) (gName 3)
def t_draw5 (K : PySem.W.Frag) : TS := tRet (tOp qMo (tOp qMo (tOp qPw (tOp qA (tOp qA (tOp qMu (tVar 3) (tC (.int 48271))) (tOp qMu (tOp qMu (tC (.int 40503)) (qS K 2)) (qS K 2))) (tC (.int 13))) (tC (.int 3))) (tC (.int 1000000007))) (tVar 1))
def t_draw (K : PySem.W.Frag) : TS := tSeq (t_draw1 K) (tSeq (t_draw2 K) (tSeq (t_draw3 K) (tSeq (t_draw4 K) (tSeq (t_draw5 K) tNext))))
def N_draw : List Str := ["_law_stream", "_law_many", "_law_digit", "_law_mixed"]
/-- the stream behind a look at the script -/
def Stm.fill (t : Stm) : Stm := if t.x = 0 then (match t.ns with
  | [] => t
  | n :: ns => if n < 1000000000000000000 then ⟨ns, 0, t.c, (t.y * 31 + n + 7) % 2147483647⟩ else ⟨ns, n, t.c, t.y⟩) else t
def Stm.up (t : Stm) : Stm := ⟨t.ns, t.x, t.c + 1, t.y⟩
def mixA (t : Stm) : Int := (t.y + 104729 * t.c + 17) ^ 5 % 2147483629
def mixB (t : Stm) : Int := (mixA t * 48271 + 40503 * t.c * t.c + 13) ^ 3 % 1000000007
/-- a draw: the number, the stream behind it -/
def drawF (t : Stm) (m : Int) : Int × Stm := if 0 < t.up.fill.x then (t.up.fill.x % m, ⟨t.up.fill.ns, t.up.fill.x / m, t.up.fill.c, t.up.fill.y⟩) else (mixB t.up.fill % m, t.up.fill)
theorem fill_c (t : Stm) : t.fill.c = t.c := by
  unfold Stm.fill
  split
  · split
    · rfl
    · split <;> rfl
  · rfl
theorem draw_c (t : Stm) (m : Int) : (drawF t m).2.c = t.c + 1 := by
  unfold drawF
  split
  · show t.up.fill.c = _; rw [fill_c]; rfl
  · show t.up.fill.c = _; rw [fill_c]; rfl
theorem draw_lo (t : Stm) {m : Int} (h : 1 ≤ m) : 0 ≤ (drawF t m).1 := by
  unfold drawF
  split
  · exact Int.emod_nonneg _ (by omega)
  · exact Int.emod_nonneg _ (by omega)
theorem draw_hi (t : Stm) {m : Int} (h : 1 ≤ m) : (drawF t m).1 < m := by
  unfold drawF
  split
  · exact Int.emod_lt_of_pos _ (by omega)
  · exact Int.emod_lt_of_pos _ (by omega)
def conDraw : Con := fun as c K _ => ∃ m : Int, as = [none, some (.int m)] ∧ 1 ≤ m ∧ m ≤ 10 ^ 100 ∧ c.c < 1000000 ∧ K (.fz (.int (drawF c m).1)) (drawF c m).2
section
variable {K : PySem.W.Frag} {σ : L2.St} {H : Hp} {s : Addr}
theorem s_ix {Q : VK} {xs : List V} {i : Int} {v : V} (h0 : σ[0]? = some (some (.ref s))) (hH : H s = some (.lst xs)) (ha : atI xs i = some v) (q : Q v H) : qS K i σ H Q := ⟨_, h0, .inl ⟨s, xs, i, v, rfl, rfl, SqL.of hH, ha, q⟩⟩
theorem s_set {v : V} {xs : List V} {i : Int} {j : Nat} {Q : L2.St → Hp → Prop} (h0 : σ[0]? = some (some (.ref s))) (hH : H s = some (.lst xs)) (hj : ixN xs.length i = some j) (q : Q σ (upd H s (.lst (xs.set j v)))) : gSub (tVar 0) (tC (.int i)) rSetL v σ H Q := ⟨_, h0, s, xs, i, j, rfl, rfl, hH, hj, q⟩
end
/-- the stream's two lists -/
structure P4 (T : SA) (H : Hp) (x c y : Int) (ns : List Int) : Prop where
  s : H T.s = some (.lst [.ref T.l, .int x, .int c, .int y])
  l : H T.l = some (.lst (ns.map V.int))
  ne : T.s ≠ T.l
  len : ns.length ≤ 63
  bits : ∀ n ∈ ns, Builtin.Int.intBits n ≤ 1048576
  x0 : 0 ≤ x
  xb : Builtin.Int.intBits x ≤ 1048576
  y0 : 0 ≤ y
  y1 : y < 2147483647
  tb : LamX.Tabs T.tb H
section
variable {K : PySem.W.Frag} {σ : L2.St} {H : Hp} {T : SA} {A : AS} {x c y m : Int} {ns : List Int} {Dn : Ends}
theorem P4.upS (h : P4 T H x c y ns) {x' c' y' : Int} (hx : 0 ≤ x') (hb : Builtin.Int.intBits x' ≤ 1048576) (hy : 0 ≤ y') (hy1 : y' < 2147483647) : P4 T (upd H T.s (.lst [.ref T.l, .int x', .int c', .int y'])) x' c' y' ns :=
  ⟨upd_same, by rw [upd_ne h.ne.symm]; exact h.l, h.ne, h.len, h.bits, hx, hb, hy, hy1, tabs_keep h.tb (tbk_upd h.s nt_lst)⟩
theorem keepS {o : HO} {Z : AS} : Keep T.A Z H (upd H T.s o) := (Keep.refl _ _ _).upd (.inl (.inl rfl))
theorem keepL {o : HO} {Z : AS} : Keep T.A Z H (upd H T.l o) := (Keep.refl _ _ _).upd (.inl (.inr (.inl rfl)))
theorem draw1 (h : P4 T H x c y ns) (h0 : σ[0]? = some (some (.ref T.s))) (k : ∀ H', P4 T H' x (c + 1) y ns → Keep T.A A H H' → Dn.nx σ H') : t_draw1 K Dn σ H :=
  s_ix h0 h.s rfl ⟨c, 1, rfl, rfl, s_set h0 h.s rfl (k _ (h.upS h.x0 h.xb h.y0 h.y1) keepS)⟩
theorem bits0 : Builtin.Int.intBits 0 ≤ 1048576 := by decide
theorem nil_eqv (ns : List Int) : PyData.eqv (.list (pds (ns.map D.int))) (.list []) = ns.isEmpty := by
  cases ns with
  | nil => rfl
  | cons n ns => rfl
theorem pow18 : ((10 : Int) ^ (18 : Int).toNat) = 1000000000000000000 := by decide
theorem dp_ints {K : PySem.W.Frag} {H : Hp} : ∀ ns : List Int, DpAll K H (ns.map V.int) (pds (ns.map D.int))
  | [] => .nil
  | n :: ns => .cons (.int n) (dp_ints ns)
theorem lay_all : ∀ ns : List Int, PyData.canLayAll0 (pds (ns.map D.int)) = true
  | [] => rfl
  | n :: ns => by
    have := lay_all ns
    simpa [pds, pd, PyData.canLayAll0, PyData.canLay0] using this
theorem lay_ints (ns : List Int) : (pd (.lst (ns.map D.int))).canLay0 = true := lay_all ns
theorem shp_ints (ns : List Int) : SeqAt.shaped (pd (.lst (ns.map D.int))) = true := by
  unfold SeqAt.shaped
  rw [lay_ints]
  have : (pd (.lst (ns.map D.int))).depth ≤ 64 := by
    have h : ∀ ns : List Int, PyData.depthAll (pds (ns.map D.int)) ≤ 1 := fun ns => by
      induction ns with
      | nil => decide
      | cons n ns ih =>
        simp only [List.map_cons, pds, pd, PyData.depthAll, PyData.depth]
        omega
    have := h ns
    simp only [pd, PyData.depth]
    omega
  simp [this]
theorem draw2b {n : Int} (h : P4 T H x c y (n :: ns)) (h0 : σ[0]? = some (some (.ref T.s))) (k : ∀ H' x' y' ns', P4 T H' x' c y' ns' → ((n < 1000000000000000000 ∧ x' = 0 ∧ y' = (y * 31 + n + 7) % 2147483647 ∧ ns' = ns) ∨ (¬ n < 1000000000000000000 ∧ x' = n ∧ y' = y ∧ ns' = ns)) → Keep T.A A H H' → Dn.nx σ H') : t_draw2b K Dn σ H := by
  refine s_ix h0 h.s rfl ⟨.inl ⟨rfl, _, SqL.of h.l⟩, T.l, _, 0, 0, .int n, rfl, rfl, h.l, by decide, by decide, by simp [seqIndex?], rfl, ?_⟩
  have e1 : upd H T.l (.lst ((List.map V.int (n :: ns)).eraseIdx 0)) T.s = some (.lst [.ref T.l, .int x, .int c, .int y]) := by rw [upd_ne h.ne]; exact h.s
  refine s_set h0 e1 rfl ?_
  have hb : Builtin.Int.intBits n ≤ 1048576 := h.bits n (List.mem_cons_self ..)
  have hl : P4 T (upd H T.l (.lst (ns.map V.int))) x c y ns := ⟨e1, upd_same, h.ne, by have := h.len; simp at this; omega, fun z hz => h.bits z (List.mem_cons_of_mem _ hz), h.x0, h.xb, h.y0, h.y1, tabs_keep h.tb (tbk_upd h.l nt_lst)⟩
  have e2 : upd (upd H T.l (.lst (ns.map V.int))) T.s (.lst [.ref T.l, .int n, .int c, .int y]) T.s = some (.lst [.ref T.l, .int n, .int c, .int y]) := upd_same
  show tTest (tOp (rI0 fun i j => .bl (decide (i < j))) (qS K 1) (tOp qPw (tC (.int 10)) (tC (.int 18)))) σ (upd (upd H T.l (.lst (ns.map V.int))) T.s (.lst [.ref T.l, .int n, .int c, .int y])) _
  refine s_ix h0 e2 rfl ⟨10, 18, rfl, rfl, ⟨by decide, by decide, by decide⟩, n, _, rfl, rfl, _, rfl, ?_⟩
  rw [pow18]
  by_cases hn : n < 1000000000000000000
  · rw [decide_eq_true hn]
    show t_draw2c K Dn σ _
    refine s_ix h0 e2 rfl ⟨y, 31, rfl, rfl, .inr ⟨by decide, by decide⟩, s_ix h0 e2 rfl ⟨_, n, rfl, rfl, ⟨_, 7, rfl, rfl, .inl ⟨_, rfl, _, 2147483647, rfl, rfl, (by decide : (0 : Int) < 2147483647), s_set h0 e2 rfl ?_⟩⟩⟩⟩
    refine s_set h0 upd_same rfl ?_
    have hm : P4 T (upd (upd (upd (upd H T.l (.lst (ns.map V.int))) T.s (.lst [.ref T.l, .int n, .int c, .int y])) T.s (.lst [.ref T.l, .int n, .int c, .int ((y * 31 + n + 7) % 2147483647)])) T.s (.lst [.ref T.l, .int 0, .int c, .int ((y * 31 + n + 7) % 2147483647)])) 0 c ((y * 31 + n + 7) % 2147483647) ns :=
      ⟨upd_same, by rw [upd_ne h.ne.symm, upd_ne h.ne.symm, upd_ne h.ne.symm]; exact upd_same, h.ne, hl.len, hl.bits, Int.le_refl 0, bits0, Int.emod_nonneg _ (by decide), Int.emod_lt_of_pos _ (by decide), tabs_keep (tabs_keep (tabs_keep hl.tb (tbk_upd hl.s nt_lst)) (tbk_upd upd_same nt_lst)) (tbk_upd upd_same nt_lst)⟩
    exact k _ _ _ _ hm (.inl ⟨hn, rfl, rfl, rfl⟩) (((keepL.trans keepS).trans keepS).trans keepS)
  · rw [decide_eq_false hn]
    exact k _ _ _ _ (hl.upS (by omega) hb hl.y0 hl.y1) (.inr ⟨hn, rfl, rfl, rfl⟩) (keepL.trans keepS)
theorem draw2 (h : P4 T H x c y ns) (h0 : σ[0]? = some (some (.ref T.s))) (hn : ∀ a, T.A a → H a ≠ none) (k : ∀ H' x' y' ns', P4 T H' x' c y' ns' → (∀ cc : Nat, (⟨ns', x', cc, y'⟩ : Stm) = Stm.fill ⟨ns, x, cc, y⟩) → Keep T.A A H H' → Dn.nx σ H') : t_draw2 K Dn σ H := by
  refine s_ix h0 h.s rfl ⟨rfl, _, rfl, ?_⟩
  by_cases hx : x = 0
  · have e : decide (V.int x = V.int 0) = true := by rw [hx]; rfl
    rw [e]
    show tTest (tOp (rNeA K) (qS K 0) (tLst tNil)) σ H _
    refine s_ix h0 h.s rfl ⟨Nat.zero_le _, fun p hp => ?_⟩
    have k1 : Keep T.A A H (upd H p (.lst [])) := Keep.new hp
    have ns1 : T.s ≠ p := fun e => hn _ (.inl rfl) (by rw [e]; exact hp)
    have nl1 : T.l ≠ p := fun e => hn _ (.inr (.inl rfl)) (by rw [e]; exact hp)
    have h1 : P4 T (upd H p (.lst [])) x c y ns := ⟨by rw [upd_ne ns1]; exact h.s, by rw [upd_ne nl1]; exact h.l, h.ne, h.len, h.bits, h.x0, h.xb, h.y0, h.y1, tabs_keep h.tb (tbk_new hp)⟩
    have z1 : Dp K (upd H p (.lst [])) (.ref T.l) (pd (.lst (ns.map D.int))) := .lst (SqL.of h1.l) (dp_ints ns)
    have z2 : Dp K (upd H p (.lst [])) (.ref p) (pd (.lst [])) := .lst (SqL.of upd_same) .nil
    refine .inr ⟨_, _, z1, z2, shp_ints ns, rfl, _, rfl, ?_⟩
    have ee : PyData.eqv (pd (.lst (ns.map D.int))) (pd (.lst [])) = ns.isEmpty := nil_eqv ns
    rw [ee]
    cases ns with
    | nil => exact k _ _ _ _ h1 (fun cc => by simp [Stm.fill]) k1
    | cons n ns => exact draw2b h1 h0 fun H' x' y' ns' hp hs kp => k H' x' y' ns' hp (fun cc => by
      rcases hs with ⟨a, rfl, rfl, rfl⟩ | ⟨a, rfl, rfl, rfl⟩
      · simp [Stm.fill, hx, a]
      · simp [Stm.fill, hx, a]) (k1.trans kp)
  · have e : decide (V.int x = V.int 0) = false := by rw [decide_eq_false_iff_not]; intro e; cases e; exact hx rfl
    rw [e]
    exact k H x y ns h (fun cc => by simp [Stm.fill, hx]) (Keep.refl _ _ _)
theorem bits_mono {a b : Int} (h0 : 0 ≤ a) (h : a ≤ b) : Builtin.Int.intBits a ≤ Builtin.Int.intBits b := by
  unfold Builtin.Int.intBits
  by_cases ha : a = 0
  · simp [ha]
  · have hb : b ≠ 0 := by omega
    have ea : (a == 0) = false := by simpa using ha
    have eb : (b == 0) = false := by simpa using hb
    rw [ea, eb]
    show a.natAbs.log2 + 1 ≤ b.natAbs.log2 + 1
    have h1 : b.natAbs < 2 ^ (b.natAbs.log2 + 1) := (Nat.log2_lt (by omega)).mp (Nat.lt_succ_self _)
    have h2 : a.natAbs < 2 ^ (b.natAbs.log2 + 1) := Nat.lt_of_le_of_lt (by omega) h1
    have h3 := (Nat.log2_lt (n := a.natAbs) (by omega)).mpr h2
    omega
theorem draw3 (h : P4 T H x c y ns) (h0 : σ[0]? = some (some (.ref T.s))) (h1 : σ[1]? = some (some (.int m))) (hl : σ.length = 4) (hm : 1 ≤ m) (hm2 : m ≤ 10 ^ 100) (k : ¬ 0 < x → Dn.nx σ H) (kr : 0 < x → ∀ H', P4 T H' (x / m) c y ns → Keep T.A A H H' → Dn.rt (.int (x % m)) H') : t_draw3 K Dn σ H := by
  refine s_ix h0 h.s rfl ⟨x, 0, rfl, rfl, _, rfl, ?_⟩
  by_cases hx : 0 < x
  · rw [decide_eq_true hx]
    show t_draw3b K Dn σ H
    have h0' : (σ.set 2 (some (.int (x % m))))[0]? = some (some (.ref T.s)) := by rw [List.getElem?_set_ne (by decide)]; exact h0
    have h1' : (σ.set 2 (some (.int (x % m))))[1]? = some (some (.int m)) := by rw [List.getElem?_set_ne (by decide)]; exact h1
    have h2' : (σ.set 2 (some (V.int (x % m))))[2]? = some (some (.int (x % m))) := by simp [hl]
    refine s_ix h0 h.s rfl (.inl ⟨x, rfl, .int m, h1, x, m, rfl, rfl, (by omega : (0 : Int) < m), ?_⟩)
    refine s_ix h0' h.s rfl ⟨.int m, h1', x, m, rfl, rfl, ⟨by omega, ?_⟩, s_set h0' h.s rfl ⟨_, h2', ?_⟩⟩
    · have : m.natAbs < 2 ^ 9000 := by
        have h3 : m.natAbs ≤ 10 ^ 100 := by omega
        exact Nat.lt_of_le_of_lt h3 (by decide +kernel)
      exact (Nat.log2_lt (by omega)).mpr this
    · refine kr hx _ (h.upS (Int.ediv_nonneg h.x0 (by omega)) ?_ h.y0 h.y1) keepS
      exact Nat.le_trans (bits_mono (Int.ediv_nonneg h.x0 (by omega)) (Int.ediv_le_self m h.x0)) h.xb
  · rw [decide_eq_false hx]
    exact k hx
theorem draw4 (h : P4 T H x c y ns) (h0 : σ[0]? = some (some (.ref T.s))) (hc : 0 ≤ c) (hc1 : c ≤ 1000000) (k : ∀ z : Int, z = (y + 104729 * c + 17) ^ 5 % 2147483629 → 0 ≤ z → z < 2147483629 → Dn.nx (σ.set 3 (some (.int z))) H) : t_draw4 K Dn σ H := by
  refine s_ix h0 h.s rfl (s_ix h0 h.s rfl ⟨104729, c, rfl, rfl, .inl ⟨by decide, by decide⟩, y, _, rfl, rfl, ⟨_, 17, rfl, rfl, ⟨_, 5, rfl, rfl, ⟨by decide, by decide, ?_⟩, _, 2147483629, rfl, rfl, (by decide : (0 : Int) < 2147483629), k _ rfl (Int.emod_nonneg _ (by decide)) (Int.emod_lt_of_pos _ (by decide))⟩⟩⟩)
  have a := h.y0
  have b := h.y1
  show (y + 104729 * c + 17).natAbs < 18446744073709551616
  omega
theorem draw5 (h : P4 T H x c y ns) {z : Int} (h0 : σ[0]? = some (some (.ref T.s))) (h1 : σ[1]? = some (some (.int m))) (h3 : σ[3]? = some (some (.int z))) (hm : 1 ≤ m) (hz : 0 ≤ z) (hz1 : z < 2147483629) (hc : 0 ≤ c) (hc1 : c ≤ 1000000) (k : Dn.rt (.int ((z * 48271 + 40503 * c * c + 13) ^ 3 % 1000000007 % m)) H) : t_draw5 K Dn σ H := by
  have hcc : c * c ≤ 1000000 * 1000000 := Int.mul_le_mul hc1 hc1 hc (by decide)
  have hcc0 : 0 ≤ c * c := Int.mul_nonneg hc hc
  refine ⟨_, h3, z, 48271, rfl, rfl, .inr ⟨by decide, by decide⟩, s_ix h0 h.s rfl ⟨40503, c, rfl, rfl, .inl ⟨by decide, by decide⟩, s_ix h0 h.s rfl ⟨_, c, rfl, rfl, .inr ⟨by omega, by omega⟩, _, _, rfl, rfl, _, 13, rfl, rfl, _, 3, rfl, rfl, ⟨by decide, by decide, ?_⟩, _, 1000000007, rfl, rfl, (by decide : (0 : Int) < 1000000007), _, h1, _, m, rfl, rfl, (by omega : (0 : Int) < m), k⟩⟩⟩
  show (z * 48271 + 40503 * c * c + 13).natAbs < 18446744073709551616
  have e : 40503 * c * c = 40503 * (c * c) := Int.mul_assoc _ _ _
  rw [e]
  omega
theorem draw_run {t : Stm} (hs : StrOk T H t) (hm : 1 ≤ m) (hm2 : m ≤ 10 ^ 100) (hc : t.c < 1000000) (k : ∀ H', Keep T.A A H H' → StrOk T H' (drawF t m).2 → Dn.rt (.int (drawF t m).1) H') : t_draw K Dn (start N_draw [.ref T.s, .int m]) H := by
  obtain ⟨ne, e1, e2, hl, hb, x0, xb, y0, y1, tb⟩ := hs
  have h : P4 T H t.x t.c t.y t.ns := ⟨e1, e2, ne, hl, hb, x0, xb, y0, y1, tb⟩
  refine draw1 (A := A) h rfl fun H1 p1 k1 => ?_
  have nn : ∀ a, T.A a → H1 a ≠ none := fun a z => by
    rcases z with rfl | rfl | ⟨q, hq⟩
    · rw [p1.s]; exact nofun
    · rw [p1.l]; exact nofun
    · obtain ⟨ps, e, _⟩ := p1.tb _ hq
      rw [e]; exact nofun
  refine draw2 (A := A) p1 rfl nn fun H2 x2 y2 ns2 p2 hf k2 => ?_
  have hf' : (⟨ns2, x2, t.c + 1, y2⟩ : Stm) = t.up.fill := hf (t.c + 1)
  have ec : ((t.c + 1 : Nat) : Int) = (t.c : Int) + 1 := by omega
  refine draw3 (A := A) (m := m) p2 rfl rfl rfl hm hm2 (fun hx => ?_) fun hx H3 p3 k3 => ?_
  · refine draw4 p2 rfl (by omega) (by omega) fun z hz z0 z1 => ?_
    refine draw5 p2 rfl rfl rfl hm z0 z1 (by omega) (by omega) ?_
    have e : drawF t m = ((z * 48271 + 40503 * ((t.c : Int) + 1) * ((t.c : Int) + 1) + 13) ^ 3 % 1000000007 % m, ⟨ns2, x2, t.c + 1, y2⟩) := by
      unfold drawF
      rw [← hf', if_neg hx]
      unfold mixB mixA
      rw [hz]
      simp only [ec]
    have hk := k H2 (k1.trans k2)
    rw [e] at hk
    exact hk ⟨p2.ne, by rw [show ((⟨ns2, x2, t.c + 1, y2⟩ : Stm).c : Int) = (t.c : Int) + 1 from ec]; exact p2.s, p2.l, p2.len, p2.bits, p2.x0, p2.xb, p2.y0, p2.y1, p2.tb⟩
  · have e : drawF t m = (x2 % m, ⟨ns2, x2 / m, t.c + 1, y2⟩) := by
      unfold drawF
      rw [← hf', if_pos hx]
    have hk := k H3 ((k1.trans k2).trans k3)
    rw [e] at hk
    exact hk ⟨p3.ne, by rw [show ((⟨ns2, x2 / m, t.c + 1, y2⟩ : Stm).c : Int) = (t.c : Int) + 1 from ec]; exact p3.s, p3.l, p3.len, p3.bits, p3.x0, p3.xb, p3.y0, p3.y1, p3.tb⟩
end
end PP
set_option Elab.async false
set_option linter.all false
set_option maxRecDepth 100000
set_option maxHeartbeats 2000000
namespace PP
open PySem L2
inductive Deed where | op (m : Str) (n : Int) | days (n : Int) | pause (n : Int) | back (m : Str)
deriving DecidableEq
def Deed.d : Deed → D
  | .op m n => .tup [.str "open", .str m, .int n]
  | .days n => .tup [.str "days", .int n]
  | .pause n => .tup [.str "pause", .int n]
  | .back m => .tup [.str "back", .str m]
def Deed.v : Deed → List V
  | .op m n => [.str "open", .str m, .int n]
  | .days n => [.str "days", .int n]
  | .pause n => [.str "pause", .int n]
  | .back m => [.str "back", .str m]
structure Ac where
  given : List (Str × Int)
  since : List (Str × Int)
def Ac.step (a : Ac) : Deed → Ac
  | .op m n => ⟨a.given ++ [(m, n)], a.since ++ [(m, 0)]⟩
  | .days n => ⟨a.given, a.since.map fun p => (p.1, p.2 + n)⟩
  | .pause _ => a
  | .back m => ⟨a.given.filter fun p => decide (p.1 ≠ m), a.since.filter fun p => decide (p.1 ≠ m)⟩
/-- a deed that can stand there -/
def Ac.ok (a : Ac) : Deed → Prop
  | .op m _ => m ∉ a.given.map (·.1)
  | .back m => m ∈ a.given.map (·.1)
  | _ => True
def Ac.run (a : Ac) : List Deed → Ac
  | [] => a
  | d :: ds => (a.step d).run ds
def Ac.oks (a : Ac) : List Deed → Prop
  | [] => True
  | d :: ds => a.ok d ∧ (a.step d).oks ds
/-- both dicts have the same keys, each once -/
structure Ac.good (a : Ac) : Prop where
  keys : a.since.map (·.1) = a.given.map (·.1)
  nodup : (a.given.map (·.1)).Nodup
theorem Ac.good.step {a : Ac} (g : a.good) {d : Deed} (h : a.ok d) : (a.step d).good := by
  cases d with
  | op m n =>
    refine ⟨by simp [Ac.step, g.keys], ?_⟩
    simp only [Ac.step, List.map_append, List.map_cons, List.map_nil]
    rw [List.nodup_append]
    refine ⟨g.nodup, by simp, fun x hx y hy e => h ?_⟩
    simp at hy
    rw [← hy, ← e]; exact hx
  | days n => exact ⟨by simp only [Ac.step, List.map_map]; rw [← g.keys]; rfl, g.nodup⟩
  | pause n => exact g
  | back m =>
    have e : ∀ l : List (Str × Int), (l.filter fun p => decide (p.1 ≠ m)).map (·.1) = (l.map (·.1)).filter fun x => decide (x ≠ m) := fun l => by rw [List.filter_map]; rfl
    refine ⟨by simp only [Ac.step]; rw [e, e, g.keys], by simp only [Ac.step]; rw [e]; exact g.nodup.filter _⟩
def kvI (l : List (Str × Int)) : List (Key × V) := l.map fun p => (Sum.inr p.1, V.int p.2)
def dI (l : List (Str × Int)) : List (Key × D) := l.map fun p => (Sum.inr p.1, D.int p.2)
def accD (row : List Deed) : D := .obj "Account" [("deeds", .tup (row.map Deed.d)), ("given", .dct (dI ((Ac.run ⟨[], []⟩ row).given))), ("since", .dct (dI ((Ac.run ⟨[], []⟩ row).since)))]
theorem kvI_len (l : List (Str × Int)) : (kvI l).length = l.length := by simp [kvI]
theorem put_new {l : List (Str × Int)} {m : Str} {n : Int} (h : m ∉ l.map (·.1)) : putK (kvI l) (.inr m) (.int n) = kvI (l ++ [(m, n)]) := by
  unfold putK
  rw [if_neg]
  · simp [kvI]
  · intro z
    rw [List.any_eq_true] at z
    obtain ⟨q, hq, e⟩ := z
    unfold kvI at hq
    obtain ⟨p, hp, rfl⟩ := List.mem_map.mp hq
    have e := of_decide_eq_true e
    have : p.1 = m := by simpa using e
    exact h (List.mem_map.mpr ⟨p, hp, this⟩)
theorem val_in {l : List (Str × Int)} {m : Str} (h : m ∈ l.map (·.1)) : ∃ n, valV (kvI l) (.inr m) = some (.int n) := by
  induction l with
  | nil => cases h
  | cons p l ih =>
    by_cases e : p.1 = m
    · exact ⟨p.2, by simp [valV, kvI, e]⟩
    · obtain ⟨n, hn⟩ := ih (by rcases List.mem_cons.mp h with q | q; exact absurd q.symm e; exact q)
      refine ⟨n, ?_⟩
      rw [← hn]
      simp [valV, kvI, e]
theorem drop_kv (l : List (Str × Int)) (m : Str) : dropK (kvI l) (.inr m) = kvI (l.filter fun p => decide (p.1 ≠ m)) := by
  unfold dropK kvI
  rw [List.filter_map]
  congr 1
  apply List.filter_congr
  intro p _
  simp
theorem deed_fz {G : Gc} {A : AS} {H : Hp} {v : V} (d : Deed) (h : Fz G A H v d.d) : ∃ t, v = .ref t ∧ H t = some (.tup d.v) := by
  cases d <;> (cases h with
    | tup n e l =>
      rw [fzl_sc (by rfl) l] at e
      exact ⟨_, rfl, e⟩)
section
variable (K : PySem.W.Frag)
abbrev qD (i : Int) : TE := tOp (rIx K) (tVar 2) (tC (.int i))
abbrev qF (f : Str) : TE := tFld K (tVar 0) f
abbrev qIs (w : Str) : TT := tTest (tOp rEq (qD K 0) (tC (.str w)))
def t_dc : TE := tDc (iAny K (qF K "since")) (gName 3) tYes (tVar 3) (tOp qA (tDGet (qF K "since") (tVar 3)) (qD K 1)) [3]
def t_acOpen : TS := tSeq (sDPut (qF K "given") (qD K 1) (qD K 2)) (tSeq (sDPut (qF K "since") (qD K 1) (tC (.int 0))) tNext)
def t_acBack : TS := tSeq (tDrop (tDPop1 (qF K "given") (qD K 1))) (tSeq (tDrop (tDPop1 (qF K "since") (qD K 1))) tNext)
def t_acDays : TS := tSeq (sFld K (tVar 0) (t_dc K) "since") tNext
def t_acBody : TS := tSeq (tIfS (qIs K "open") (t_acOpen K) (tSeq (tIfS (qIs K "back") (t_acBack K) (tSeq (tIfS (qIs K "days") (t_acDays K) tNext) tNext)) tNext)) tNext
end
/-- the object under way: all else as at H1 -/
structure AcAt (C x dx t g sn : Addr) (H1 : Hp) (a : Ac) (H : Hp) : Prop where
  ex : H x = some (.ins C dx [("deeds", .ref t), ("given", .ref g), ("since", .ref sn)])
  eg : H g = some (.dK (kvI a.given))
  es : H sn = some (.dK (kvI a.since))
  old : ∀ b o, H1 b = some o → b ≠ x → H b = some o
  g0 : H1 g = none
  s0 : H1 sn = none
  gx : g ≠ x
  sx : sn ≠ x
  gs : g ≠ sn
section
variable {K : PySem.W.Frag} {C x dx t g sn : Addr} {H1 H : Hp} {a : Ac} {σ : L2.St} {Dn : Ends} {d : Deed} {td : Addr}
theorem q_d {Q : VK} {xs : List V} {i : Int} {v : V} (h2 : σ[2]? = some (some (.ref td))) (hH : H td = some (.tup xs)) (ha : atI xs i = some v) (q : Q v H) : qD K i σ H Q := ⟨_, h2, .inr (.inl ⟨td, xs, i, v, rfl, rfl, SqT.of hH, ha, q⟩)⟩
theorem q_f {Q : VK} {f : Str} {fs : List (Str × V)} {v : V} (hc : Cls K C) (hn : NoAttr K C f) (h0 : σ[0]? = some (some (.ref x))) (hH : H x = some (.ins C dx fs)) (hl : fs.lookup f = some v) (q : Q v H) : qF K f σ H Q := ⟨_, h0, x, C, dx, fs, v, rfl, hH, hc, hn, hl, q⟩
theorem AcAt.setG (h : AcAt C x dx t g sn H1 a H) (l : List (Str × Int)) : AcAt C x dx t g sn H1 ⟨l, a.since⟩ (upd H g (.dK (kvI l))) :=
  ⟨by rw [upd_ne h.gx.symm]; exact h.ex, upd_same, by rw [upd_ne h.gs.symm]; exact h.es, fun b o e n => by rw [upd_ne (ne_of_none e h.g0)]; exact h.old b o e n, h.g0, h.s0, h.gx, h.sx, h.gs⟩
theorem AcAt.setS (h : AcAt C x dx t g sn H1 a H) (l : List (Str × Int)) : AcAt C x dx t g sn H1 ⟨a.given, l⟩ (upd H sn (.dK (kvI l))) :=
  ⟨by rw [upd_ne h.sx.symm]; exact h.ex, by rw [upd_ne h.gs]; exact h.eg, upd_same, fun b o e n => by rw [upd_ne (ne_of_none e h.s0)]; exact h.old b o e n, h.g0, h.s0, h.gx, h.sx, h.gs⟩
structure AcK (K : PySem.W.Frag) (C : Addr) : Prop where
  c : Cls K C
  d : NoAttr K C "deeds"
  g : NoAttr K C "given"
  s : NoAttr K C "since"
theorem ac_open (kc : AcK K C) (h : AcAt C x dx t g sn H1 a H) (ga : a.good) {m : Str} {n : Int} (ok : a.ok (.op m n)) (hz : a.given.length < 1000000) (h0 : σ[0]? = some (some (.ref x))) (h2 : σ[2]? = some (some (.ref td))) (ht : H1 td = some (.tup (Deed.op m n).v)) (tx : td ≠ x)
    (k : ∀ H', AcAt C x dx t g sn H1 (a.step (.op m n)) H' → Dn.nx σ H') : t_acOpen K Dn σ H := by
  have hs : m ∉ a.since.map (·.1) := by rw [ga.keys]; exact ok
  have hl : a.since.length < 1000000 := by
    have := congrArg List.length ga.keys
    simp at this; omega
  have big : (1000000 : Nat) ≤ sizeLine := by decide
  refine q_d h2 (h.old td _ ht tx) rfl (q_f kc.c kc.g h0 h.ex rfl (q_d h2 (h.old td _ ht tx) rfl ⟨g, _, rfl, .inl ⟨_, .inr m, h.eg, rfl, by rw [kvI_len]; omega, rfl⟩, ?_⟩))
  rw [put_new ok]
  have b := h.setG (a.given ++ [(m, n)])
  dsimp only [tSeq, sDPut, tC]
  refine q_f kc.c kc.s h0 b.ex rfl ?_
  refine q_d h2 (b.old td _ ht tx) rfl ?_
  refine ⟨sn, _, rfl, .inl ⟨_, .inr m, b.es, rfl, by rw [kvI_len]; show a.since.length < _; omega, rfl⟩, ?_⟩
  show Dn.nx σ (upd _ sn (.dK (putK (kvI a.since) (.inr m) (.int 0))))
  rw [put_new hs]
  exact k _ (b.setS (a.since ++ [(m, 0)]))
theorem ac_back (kc : AcK K C) (h : AcAt C x dx t g sn H1 a H) (ga : a.good) {m : Str} (ok : a.ok (.back m)) (h0 : σ[0]? = some (some (.ref x))) (h2 : σ[2]? = some (some (.ref td))) (ht : H1 td = some (.tup (Deed.back m).v)) (tx : td ≠ x)
    (k : ∀ H', AcAt C x dx t g sn H1 (a.step (.back m)) H' → Dn.nx σ H') : t_acBack K Dn σ H := by
  have hs : m ∈ a.since.map (·.1) := by rw [ga.keys]; exact ok
  obtain ⟨n, hn⟩ := val_in (show m ∈ a.given.map (·.1) from ok)
  obtain ⟨n', hn'⟩ := val_in hs
  dsimp only [t_acBack, tSeq, tDrop, tDPop1]
  refine q_f kc.c kc.g h0 h.ex rfl ?_
  refine ⟨g, rfl, .inl ⟨_, .inl h.eg⟩, ?_⟩
  refine q_d h2 (h.old td _ ht tx) rfl ?_
  refine ⟨_, .inr m, _, h.eg, rfl, hn, ?_⟩
  rw [drop_kv]
  have b := h.setG (a.given.filter fun p => decide (p.1 ≠ m))
  refine q_f kc.c kc.s h0 b.ex rfl ?_
  refine ⟨sn, rfl, .inl ⟨_, .inl b.es⟩, ?_⟩
  refine q_d h2 (b.old td _ ht tx) rfl ?_
  refine ⟨_, .inr m, _, b.es, rfl, hn', ?_⟩
  show Dn.nx σ (upd _ sn (.dK (dropK (kvI a.since) (.inr m))))
  rw [drop_kv]
  exact k _ (b.setS (a.since.filter fun p => decide (p.1 ≠ m)))
theorem upd2 {H : Hp} {p : Addr} {o o' : HO} : upd (upd H p o) p o' = upd H p o' := by
  funext b
  by_cases e : b = p
  · rw [e, upd_same, upd_same]
  · rw [upd_ne e, upd_ne e, upd_ne e]
theorem val_at {l : List (Str × Int)} (hn : (l.map (·.1)).Nodup) {i : Nat} {p : Str × Int} (h : l[i]? = some p) : valV (kvI l) (.inr p.1) = some (.int p.2) := by
  induction l generalizing i with
  | nil => simp at h
  | cons q l ih =>
    rw [List.map_cons, List.nodup_cons] at hn
    cases i with
    | zero => simp at h; subst h; simp [valV, kvI]
    | succ i =>
      have h' : l[i]? = some p := by simpa using h
      have ne : ¬ q.1 = p.1 := fun e => hn.1 (by rw [e]; exact List.mem_map.mpr ⟨p, List.mem_of_getElem? h', rfl⟩)
      rw [← ih hn.2 h']
      simp [valV, kvI, ne]
def addI (n : Int) (l : List (Str × Int)) : List (Str × Int) := l.map fun p => (p.1, p.2 + n)
theorem ac_days (kc : AcK K C) (h : AcAt C x dx t g sn H1 a H) (ga : a.good) {n : Int} (hz : a.given.length < 1000000) (h0 : σ[0]? = some (some (.ref x))) (h2 : σ[2]? = some (some (.ref td))) (h4 : σ.length = 4) (ht : H1 td = some (.tup (Deed.days n).v)) (tx : td ≠ x)
    (k : ∀ sn' H', AcAt C x dx t g sn' H1 (a.step (.days n)) H' → Dn.nx σ H') : t_acDays K Dn σ H := by
  have hl : a.since.length = a.given.length := by
    have := congrArg List.length ga.keys
    simpa using this
  have hnd : (a.since.map (·.1)).Nodup := by rw [ga.keys]; exact ga.nodup
  have big : (1000000 : Nat) ≤ sizeLine := by decide
  dsimp only [t_acDays, tSeq, sFld, t_dc, tDc, iAny]
  refine q_f kc.c kc.s h0 h.ex rfl ?_
  refine .inr (.inr (.inr (.inl ⟨sn, _, rfl, h.es, fun o Dd hD => ?_⟩)))
  have nD : Dd ≠ sn := fun e => by rw [e, upd_same] at hD; cases hD
  have hDH : H Dd = none := by rw [upd_ne nD] at hD; exact hD
  have xD : x ≠ Dd := fun e => by rw [← e, h.ex] at hDH; cases hDH
  have gD : g ≠ Dd := fun e => by rw [← e, h.eg] at hDH; cases hDH
  have tdH : H td = some (.tup (Deed.days n).v) := h.old td _ ht tx
  have tD : td ≠ Dd := fun e => by rw [← e, tdH] at hDH; cases hDH
  have ts : td ≠ sn := ne_of_none ht h.s0
  have h1D : H1 Dd = none := by
    cases q : H1 Dd with
    | none => rfl
    | some o => rw [h.old Dd o q xD.symm] at hDH; cases hDH
  let Hw : Nat → Hp := fun i => upd (upd H sn (.frz o (.dK (kvI a.since)))) Dd (.dK (kvI ((addI n a.since).take i)))
  have wx : ∀ i, Hw i x = some (.ins C dx [("deeds", .ref t), ("given", .ref g), ("since", .ref sn)]) := fun i => by show upd (upd _ _ _) _ _ x = _; rw [upd_ne xD, upd_ne h.sx.symm]; exact h.ex
  have ws : ∀ i, Hw i sn = some (.frz o (.dK (kvI a.since))) := fun i => by show upd (upd _ _ _) _ _ sn = _; rw [upd_ne nD.symm, upd_same]
  have wt : ∀ i, Hw i td = some (.tup (Deed.days n).v) := fun i => by show upd (upd _ _ _) _ _ td = _; rw [upd_ne tD, upd_ne ts]; exact tdH
  have wg : ∀ i, Hw i g = some (.dK (kvI a.given)) := fun i => by show upd (upd _ _ _) _ _ g = _; rw [upd_ne gD, upd_ne h.gs]; exact h.eg
  refine ⟨fun i m H' => m = a.since.length - i ∧ i ≤ a.since.length ∧ H' = Hw i, ⟨a.since.length, rfl, Nat.zero_le _, rfl⟩, ?_⟩
  rintro i m H' ⟨rfl, hi, rfl⟩
  by_cases hlt : i < a.since.length
  · refine .inr ⟨⟨ws i, by rw [kvI_len]; exact hlt⟩, fun H' => i + 1 ≤ a.since.length ∧ H' = Hw (i + 1), fun H' q => ⟨a.since.length - (i + 1), by omega, rfl, q.1, q.2⟩, fun y H' hy => ?_⟩
    obtain ⟨rfl, ky, vy, hk, rfl⟩ := hy
    have hp : a.since[i]? = some a.since[i] := by simp [hlt]
    have ek : ky = .inr a.since[i].1 ∧ vy = .int a.since[i].2 := by
      unfold kvI at hk
      rw [List.getElem?_map, hp] at hk
      simp at hk
      exact ⟨hk.1.symm, hk.2.symm⟩
    obtain ⟨rfl, rfl⟩ := ek
    have ew : L2.wipe σ [3] = σ.set 3 none := rfl
    have s3 : ((L2.wipe σ [3]).set 3 (some (kV (.inr a.since[i].1))))[3]? = some (some (kV (.inr a.since[i].1))) := by rw [ew]; simp [h4]
    have s0 : ((L2.wipe σ [3]).set 3 (some (kV (.inr a.since[i].1))))[0]? = some (some (.ref x)) := by rw [ew, List.getElem?_set_ne (by decide), List.getElem?_set_ne (by decide)]; exact h0
    have s2 : ((L2.wipe σ [3]).set 3 (some (kV (.inr a.since[i].1))))[2]? = some (some (.ref td)) := by rw [ew, List.getElem?_set_ne (by decide), List.getElem?_set_ne (by decide)]; exact h2
    refine ⟨?_, ?_⟩
    · show (((σ.set 3 none).set 3 _).set 3 none) = σ.set 3 none
      rw [List.set_set, List.set_set]
    · dsimp only [tYes]
      rw [if_pos rfl]
      refine ⟨_, s3, ?_⟩
      dsimp only [tOp, tDGet]
      refine q_f kc.c kc.s s0 (wx i) rfl ?_
      refine ⟨_, s3, sn, .int a.since[i].2, rfl, .inl ⟨_, _, .inr ⟨o, ws i⟩, rfl, (val_at hnd hp).symm⟩, ?_⟩
      refine q_d s2 (wt i) rfl ?_
      refine ⟨_, n, rfl, rfl, _, .inr a.since[i].1, rfl, upd_same, ?_, hlt, ?_⟩
      · rw [kvI_len, List.length_take]
        unfold addI
        rw [List.length_map]; omega
      · show upd (upd _ Dd _) Dd _ = upd _ Dd _
        rw [upd2, put_new]
        · congr 3
          rw [List.take_add_one]
          congr 1
          unfold addI
          rw [List.getElem?_map, hp]
          rfl
        · intro q
          have : ((addI n a.since).take i).map (·.1) = (a.since.map (·.1)).take i := by
            unfold addI
            rw [List.map_take, List.map_map]; rfl
          rw [this] at q
          obtain ⟨j, hj⟩ := List.mem_iff_getElem?.mp q
          rw [List.getElem?_take] at hj
          split at hj
          · rename_i hji
            have hi' : (a.since.map (·.1))[i]? = some a.since[i].1 := by rw [List.getElem?_map, hp]; rfl
            have := (List.getElem?_inj (by simp; omega) hnd).mp (hj.trans hi'.symm)
            omega
          · cases hj
  · have ei : i = a.since.length := by omega
    subst ei
    refine .inl ⟨⟨ws _, by rw [kvI_len]; exact Nat.le_refl _⟩, ?_⟩
    refine ⟨_, h0, x, C, dx, _, rfl, wx _, kc.c, kc.s, (by show 3 < 1000; decide), ?_⟩
    have et : (addI n a.since).take a.since.length = addI n a.since := List.take_of_length_le (by unfold addI; simp)
    have ep : putF (Str.ofString "since") (V.ref Dd) [(Str.ofString "deeds", V.ref t), (Str.ofString "given", V.ref g), (Str.ofString "since", V.ref sn)] = [(Str.ofString "deeds", V.ref t), (Str.ofString "given", V.ref g), (Str.ofString "since", V.ref Dd)] := rfl
    rw [ep]
    refine k Dd _ ⟨upd_same, by rw [upd_ne h.gx]; exact wg _, ?_, fun b o e nb => ?_, h.g0, h1D, h.gx, xD.symm, gD⟩
    · rw [upd_ne xD.symm]
      show upd (upd _ _ _) Dd _ Dd = _
      rw [upd_same, et]
      rfl
    · rw [upd_ne nb]
      show upd (upd _ _ _) Dd _ b = _
      rw [upd_ne (ne_of_none e h1D), upd_ne (ne_of_none e h.s0)]
      exact h.old b o e nb
theorem q_is {w : Str} {Q : Bool → Hp → Prop} {xs : List V} {v : Str} (h2 : σ[2]? = some (some (.ref td))) (hH : H td = some (.tup xs)) (ha : atI xs 0 = some (.str v)) (q : Q (decide (v = w)) H) : qIs K w σ H Q := by
  refine q_d h2 hH ha ⟨rfl, _, rfl, ?_⟩
  have e : decide (V.str v = V.str w) = decide (v = w) := by
    by_cases h : v = w
    · subst h; simp
    · simp [h]
  rw [e]; exact q
theorem ac_body (kc : AcK K C) (h : AcAt C x dx t g sn H1 a H) (ga : a.good) (ok : a.ok d) (hz : a.given.length < 1000000) (h0 : σ[0]? = some (some (.ref x))) (h2 : σ[2]? = some (some (.ref td))) (h4 : σ.length = 4) (ht : H1 td = some (.tup d.v)) (tx : td ≠ x)
    (k : ∀ sn' H', AcAt C x dx t g sn' H1 (a.step d) H' → Dn.nx σ H') : t_acBody K Dn σ H := by
  have htH := h.old td _ ht tx
  dsimp only [t_acBody, tSeq, tIfS]
  cases d with
  | op m n =>
    refine q_is h2 htH rfl ?_
    rw [if_pos (by decide)]
    exact ac_open (Dn := { Dn with nx := tNext Dn }) kc h ga ok hz h0 h2 ht tx fun H' q => k sn H' q
  | back m =>
    refine q_is h2 htH rfl ?_
    rw [if_neg (by decide)]
    refine q_is h2 htH rfl ?_
    rw [if_pos (by decide)]
    exact ac_back (Dn := { Dn with nx := tNext Dn }) kc h ga ok h0 h2 ht tx fun H' q => k sn H' q
  | days n =>
    refine q_is h2 htH rfl ?_
    rw [if_neg (by decide)]
    refine q_is h2 htH rfl ?_
    rw [if_neg (by decide)]
    refine q_is h2 htH rfl ?_
    rw [if_pos (by decide)]
    exact ac_days (Dn := { Dn with nx := tNext Dn }) kc h ga hz h0 h2 h4 ht tx k
  | pause n =>
    refine q_is h2 htH rfl ?_
    rw [if_neg (by decide)]
    refine q_is h2 htH rfl ?_
    rw [if_neg (by decide)]
    refine q_is h2 htH rfl ?_
    rw [if_neg (by decide)]
    exact k sn H h
end
end PP
set_option Elab.async false
set_option linter.all false
set_option maxRecDepth 100000
set_option maxHeartbeats 2000000
namespace PP
open PySem L2
def Deed.ds : Deed → List D
  | .op m n => [.str "open", .str m, .int n]
  | .days n => [.str "days", .int n]
  | .pause n => [.str "pause", .int n]
  | .back m => [.str "back", .str m]
theorem Deed.d_eq (d : Deed) : d.d = .tup d.ds := by cases d <;> rfl
def DeedIs (x : D) (d : Deed) : Prop := x = .tup d.ds ∨ x = .lst d.ds
inductive DsAre : List D → List Deed → Prop
  | nil : DsAre [] []
  | cons {x : D} {d : Deed} {xs : List D} {ds : List Deed} : DeedIs x d → DsAre xs ds → DsAre (x :: xs) (d :: ds)
theorem DsAre.of : ∀ row : List Deed, DsAre (row.map Deed.d) row
  | [] => .nil
  | d :: r => .cons (.inl (d.d_eq)) (DsAre.of r)
def letters : Str := "abcdefghijklmnopqrstuvwxyz"
def MarkOk (m : Str) : Prop := 1 ≤ m.length ∧ m.length ≤ 8 ∧ ∀ c ∈ m.cps.toList, c ∈ letters.cps.toList
def okD : Deed → Prop
  | .op m n => MarkOk m ∧ 0 < n
  | .days n => 0 < n
  | .pause n => 0 < n
  | .back m => MarkOk m
def opens : Deed → List Str
  | .op m _ => [m]
  | _ => []
def newOp (opened : List Str) : Deed → Prop
  | .op m _ => m ∉ opened
  | _ => True
def vd (opened : List Str) (a : Ac) : List Deed → Prop
  | [] => True
  | d :: r => newOp opened d ∧ a.ok d ∧ vd (opened ++ opens d) (a.step d) r
def ac0 : Ac := ⟨[], []⟩
structure ValidRow (row : List Deed) : Prop where
  ok : ∀ d ∈ row, okD d
  len : row.length ≤ 100000
  vd : vd [] ac0 row
theorem good0 : ac0.good := ⟨rfl, List.nodup_nil⟩
theorem vd_oks : ∀ {row : List Deed} {op : List Str} {a : Ac}, vd op a row → a.oks row
  | [], _, _, _ => trivial
  | _ :: _, _, _, h => ⟨h.2.1, vd_oks h.2.2⟩
def t_acInit (K : PySem.W.Frag) (tv : TE) : TS := tSeq (sFld K (tVar 0) tv "deeds") (tSeq (sFld K (tVar 0) tDNewK "given") (tSeq (sFld K (tVar 0) tDNewK "since") (tSeq (tFor (iTup K (qF K "deeds")) (gName 2) (t_acBody K)) tNext)))
def N_acInit : List Str := ["self", "row", "deed", "mark"]
def i_acDeeds : Ex := .bi .tuple [.call "checked_row" [.var 1] 0]
theorem Ac.step_len (a : Ac) (d : Deed) : (a.step d).given.length ≤ a.given.length + 1 := by
  cases d with
  | op m n => simp [Ac.step]
  | days n => simp [Ac.step]
  | pause n => simp [Ac.step]
  | back m => simp only [Ac.step]; exact Nat.le_succ_of_le (List.length_filter_le _ _)
section
variable {K : PySem.W.Frag} {C x dx t g sn : Addr} {H1 H : Hp} {a : Ac} {σ : L2.St} {Dn : Ends}
/-- the loop over the deeds -/
theorem ac_loop {G : Gc} {A : AS} {vs1 : List V} {row : List Deed} (hK : K = G.K) (kc : AcK K C) (h : AcAt C x dx t g sn H1 ac0 H) (ht : H1 t = some (.tup vs1)) (tx : t ≠ x) (ax : A x) (l : FzL G A H1 vs1 (row.map Deed.d)) (hv : ValidRow row) (h0 : σ[0]? = some (some (.ref x))) (h4 : σ.length = 4)
    (k : ∀ sn' σ' H', AcAt C x dx t g sn' H1 (ac0.run row) H' → Dn.nx σ' H') : tFor (iTup K (qF K "deeds")) (gName 2) (t_acBody K) Dn σ H := by
  have htH : ∀ {sn' a' H'}, AcAt C x dx t g sn' H1 a' H' → SqT K H' t vs1 := fun q => SqT.of (q.old t _ ht tx)
  have hlen : vs1.length = row.length := by rw [l.length, List.length_map]
  dsimp only [tFor, iTup]
  refine q_f kc.c kc.d h0 h.ex rfl ?_
  refine ⟨t, rfl, ⟨_, htH h⟩, ?_⟩
  let W0 : Nat → L2.St → Hp → Prop := fun i σ' H' => i ≤ row.length ∧ σ'[0]? = some (some (.ref x)) ∧ σ'.length = 4 ∧ ∃ sn' a', AcAt C x dx t g sn' H1 a' H' ∧ a'.good ∧ a'.oks (row.drop i) ∧ a'.run (row.drop i) = ac0.run row ∧ a'.given.length ≤ i
  refine ⟨fun i m σ' H' => m = row.length - i ∧ W0 i σ' H', ⟨row.length, rfl, Nat.zero_le _, h0, h4, sn, ac0, h, good0, vd_oks hv.vd, rfl, Nat.le_refl _⟩, ?_⟩
  rintro i m σ' H' ⟨rfl, hi, s0, s4, sn', a', q, ga, oks, er, gl⟩
  by_cases hlt : i < row.length
  · refine .inr ⟨⟨vs1, vs1[i]'(by omega), htH q, by simp [hlen, hlt]⟩, W0 (i + 1), fun σ'' H'' p => ⟨row.length - (i + 1), by omega, rfl, p⟩, fun v H'' hy => ?_⟩
    obtain ⟨rfl, hy⟩ := hy
    have hvi := hy vs1 (htH q)
    have hdi : (row.map Deed.d)[i]? = some row[i].d := by simp [hlt]
    obtain ⟨v', hv', z⟩ := l.getD hdi
    rw [hvi] at hv'; cases hv'
    obtain ⟨td, rfl, htd⟩ := deed_fz row[i] z
    have tdx : td ≠ x := by
      intro e
      rw [row[i].d_eq] at z
      cases z with
      | tup n _ _ => exact n (e ▸ ax)
    rw [drop_get hlt] at oks er
    dsimp only [gName]
    have hl1 := hv.len
    refine ac_body kc q ga oks.1 (by omega) (by rw [List.getElem?_set_ne (by decide)]; exact s0) (by simp [s4]) (by simp [s4]) htd tdx fun sn'' H'' q' => ?_
    exact ⟨hlt, by rw [List.getElem?_set_ne (by decide)]; exact s0, by simp [s4], sn'', _, q', ga.step oks.1, oks.2, er, Nat.le_trans (a'.step_len _) (by omega)⟩
  · have ei : i = row.length := by omega
    subst ei
    rw [List.drop_length] at er
    refine .inl ⟨⟨vs1, htH q, by omega⟩, k sn' σ' H' ?_⟩
    rw [← er]; exact q
end
theorem fzl_mkv {G : Gc} {A : AS} {H : Hp} : ∀ l : List (Str × Int), FzL G A H ((kvI l).map (·.2)) ((dI l).map (·.2))
  | [] => .nil
  | p :: l => .cons (.int p.2) (fzl_mkv l)
theorem kv_keys (l : List (Str × Int)) : (kvI l).map (·.1) = (dI l).map (·.1) := by simp [kvI, dI, List.map_map]
theorem dm0 {H0 : Hp} {x dx : Addr} {o1 o2 : HO} {b : Addr} {o : HO} (hx : H0 x = none) (hdx : H0 dx = none) (h : H0 b = some o) : upd (upd H0 dx o1) x o2 b = some o := by
  rw [upd_ne (ne_of_none h hx), upd_ne (ne_of_none h hdx)]; exact h
end PP
set_option Elab.async false
set_option linter.all false
set_option maxRecDepth 100000
set_option maxHeartbeats 2000000
namespace PP
open PySem PySem.Spec PyProof.Rows L2
def eqs (k : Str) (v : Value) : Bool := match v with
  | .str n _ => n.cps.toList == k.cps.toList
  | _ => false
theorem str_ne {a b : Str} (h : a ≠ b) : (a.cps.toList == b.cps.toList) = false := by
  rw [beq_eq_false_iff_ne]
  intro e
  apply h
  cases a; cases b
  congr 1
  exact Array.toList_inj.mp e
theorem eqs_gives {k : Str} {t : Tok} : ∀ {us : List Value} {ns : List Str}, StrsAre us ns → ∀ y ∈ us, MeetsSeq.EqGives y (.str k t) (eqs k y)
  | _, _, .nil => fun y hy => by cases hy
  | _, _, .cons n t' h => fun y hy => by
    rcases List.mem_cons.mp hy with e | e
    · rw [e]
      exact SeqRoads2.EqGives.str n k t' t
    · exact eqs_gives h y e
theorem strs_get : ∀ {us : List Value} {ns : List Str}, StrsAre us ns → ∀ (j : Nat) (k : Str), ns[j]? = some k → ∃ t, us[j]? = some (.str k t)
  | _, _, .nil, j, k, h => by simp at h
  | _, _, .cons n t' h, 0, k, e => by simp at e; subst e; exact ⟨t', rfl⟩
  | _, _, .cons n t' h, j + 1, k, e => by
    obtain ⟨t, q⟩ := strs_get h j k (by simpa using e)
    exact ⟨t, by simpa using q⟩
theorem erase_mapS : ∀ (l : List Str) (j : Nat), (l.map V.str).eraseIdx j = (l.eraseIdx j).map V.str
  | [], j => by simp
  | a :: r, 0 => by simp
  | a :: r, j + 1 => by
    have ih := erase_mapS r j
    simp [ih]
section
variable {X : Cx}
def rRemS : V → List V → Hp → VK → Prop := fun x xs H Q => ∃ (l : Addr) (ns : List Str) (k : Str) (j : Nat), x = .ref l ∧ xs = [.str k] ∧ H l = some (.lst (ns.map V.str)) ∧ ns[j]? = some k ∧ (∀ m : Nat, m < j → ns[m]? ≠ some k) ∧ Q .non (upd H l (.lst ((ns.eraseIdx j).map V.str)))
theorem mt_removeS : MtM X "list.remove" rRemS := by
  intro pins s σ H x xs v us Q I rx rxs h
  obtain ⟨l, ns, k, j, rfl, rfl, hH, hj, hno, q⟩ := h
  cases rx
  obtain ⟨u, rfl, ru⟩ := rxs.one
  obtain ⟨t, rfl⟩ := ru
  obtain ⟨z, its, n, r, hl, e⟩ := I.lstM hH
  have hi := strs_of_vals r
  rw [List.length_map] at hl z
  have hjn : j < ns.length := (List.getElem?_eq_some_iff.mp hj).1
  have hjl : j < its.toArray.size := by rw [List.size_toArray]; omega
  refine call_meets PySem.F.slot_list_remove ⟨_, e, rfl⟩ PySem.F.entry_list_remove (PySem.F.args_list_remove_2 _ _)
    (MeetsSeq.list_remove l its.toArray n (.str k t) (eqs k) (fun y hy => eqs_gives hi y (by simpa using hy)) j hjl ?_ ?_ (by rw [List.size_toArray]; omega)) ⟨e, ?_⟩
  · obtain ⟨tj, hjt⟩ := strs_get hi j k hj
    obtain ⟨h1, h2⟩ := List.getElem?_eq_some_iff.mp hjt
    have e1 : its.toArray[j] = .str k tj := by simpa using h2
    rw [e1]
    show (k.cps.toList == k.cps.toList) = true
    exact beq_self_eq_true _
  · intro m hm hmj
    have hmn : m < ns.length := by omega
    obtain ⟨tm, hmt⟩ := strs_get hi m _ (List.getElem?_eq_getElem hmn)
    obtain ⟨h1, h2⟩ := List.getElem?_eq_some_iff.mp hmt
    have e1 : its.toArray[m] = .str ns[m] tm := by simpa using h2
    rw [e1]
    refine str_ne fun e2 => hno m hmj ?_
    rw [List.getElem?_eq_getElem hmn, e2]
  · have rr := r.eraseIdx j
    rw [erase_mapS] at rr
    refine ⟨.non, _, I.lset (its' := its.eraseIdx j) (t' := s.toks) hH e ?_ rr ?_, rfl, q⟩
    · show its.toArray.eraseIdxIfInBounds j = (its.eraseIdx j).toArray
      rw [List.eraseIdxIfInBounds_toArray]
    · have z2 := len_erase ns j
      rw [List.length_map]
      omega
end
theorem first_atS : ∀ {ns : List Str} {k : Str}, k ∈ ns → ∃ j, ns[j]? = some k ∧ (∀ i, i < j → ns[i]? ≠ some k) ∧ ns.eraseIdx j = ns.erase k
  | n :: ns, k, h => by
    by_cases e : n = k
    · subst e
      exact ⟨0, rfl, fun i hi => absurd hi (Nat.not_lt_zero _), by simp⟩
    · obtain ⟨j, h1, h2, h3⟩ := first_atS (ns := ns) (k := k) (by rcases List.mem_cons.mp h with q | q; exact absurd q.symm e; exact q)
      refine ⟨j + 1, by simpa using h1, fun i hi => ?_, ?_⟩
      · cases i with
        | zero => simpa using e
        | succ i => simpa using h2 i (Nat.lt_of_succ_lt_succ hi)
      · rw [List.erase_cons_tail (by simpa using e), ← h3]; rfl
section
variable {X : Cx} {F : Fm} {E : XC} {Γ : PP.Env} {a b c tg : Expr} {ia ib ic : Ex} {pos : Pos}
/-- xs.remove(e), xs a slot, a list of texts -/
theorem ss_rem (g : Gd X F E) (i : Nat) {x : Str} {px apos cpos : Pos} (ha : SX X F E Γ a ia) (hi : X.N[i]? = some x := by rfl) (hv : Vis X.env.scope x := by first | exact Or.inl rfl | exact Or.inr (Or.inl rfl) | exact Or.inr (Or.inr rfl)) (hd : (x == ("__debug__" : Str)) = false := by decide) (hcd : (x == ("__classdict__" : Str)) = false := by decide)
    (hbase : attributeBase (.Name x px) "remove" X.env (eval (.Name x px) X.env) = eval (.Name x px) X.env := by rfl)
    (hfew : ((backTo cpos (starEach [a] X.env)).all (fun x => !x.1) && (backToKw cpos (keywordEach [] X.env)).all (fun x => x.1.isSome)
      && decide (([a] : List Expr).length + ([] : List Keyword).length + (if ([] : List Keyword).isEmpty then 0 else 1) < 30)) = true := by rfl)
    (hline : (apos.endLine == cpos.line) = true := by rfl) (hs : starEach [a] X.env = (false, eval a X.env) :: starEach [] X.env := by rfl) (hsw : swapsWith (.Call (.Attribute (.Name x px) "remove" apos) [a] [] cpos) none pos.line X.env = pure false := by rfl) :
    SSX X F E Γ (.Expr (.Call (.Attribute (.Name x px) "remove" apos) [a] [] cpos) pos) (.rem i ia) :=
  PSimp (ps_expr (pe_bm PySem.F.plainAttrs_list PySem.F.slot_list_remove PySem.F.type_list_remove mt_removeS (pe_var hi hv hd hcd) (pa_cons ha pa_nil hs) hbase hfew hline hs rfl) hsw) fun Dn σ H h => by
    obtain ⟨ow, s, n, R, w, he, ct⟩ := h
    subst he
    obtain ⟨ho, w⟩ := has_own (show qHas i s (fun _ s => bnd (toD (evP Γ ia).r) (qRem i) s (fun _ s1 => n.nx s1) n.ex) n.ex from w)
    obtain ⟨p, vs, xs, hp, hH, l, hk, mu⟩ := R.ownL ho
    refine ⟨.ref p, hp, .inl ⟨rfl, _, SqL.of hH⟩, F.Z0, ow, s, _, R, w, fun r s1 v1 H1 ow1 w1 rr e1 => ?_⟩
    obtain ⟨R1, z1⟩ := rr.fz' R
    have w1' : (match gt s1.sl i, r.d with
      | some (.own xs), .str x => (match asStrs xs with
        | some ys => x ∈ ys ∧ n.nx { s1 with sl := pt s1.sl i (some (.own ((ys.erase x).map D.str))) }
        | none => False)
      | _, _ => False) := w1
    cases q : gt s1.sl i with
    | none => rw [q] at w1'; exact w1'.elim
    | some q' => cases q' with
      | own xs1 =>
        rw [q] at w1'
        cases hd : r.d with
        | str k =>
          rw [hd] at w1' z1
          cases z1
          dsimp only at w1'
          cases hy : asStrs xs1 with
          | none => rw [hy] at w1'; exact w1'.elim
          | some ys =>
            rw [hy] at w1'
            obtain ⟨hin, w2⟩ := w1'
            obtain ⟨p1, vs1, xs2, hp1, hH1, l1, hk1, mu1⟩ := R1.ownL (.inl ⟨xs1, q⟩)
            rw [hp] at hp1; cases hp1
            have ex : xs2 = xs1 := by
              rcases hk1 with e | e <;> (rw [q] at e; cases e) <;> rfl
            subst ex
            rw [asStrs_eq hy] at l1
            rw [fzl_strs l1] at hH1
            obtain ⟨j, j1, j2, j3⟩ := first_atS hin
            refine ⟨p, ys, k, j, rfl, rfl, hH1, j1, j2, ?_⟩
            rw [j3]
            obtain ⟨R2, e2⟩ := mu1 ((ys.erase k).map V.str) ((ys.erase k).map D.str) (fzl_of_strs _) (.own ((ys.erase k).map D.str)) (fun _ => rfl) (fun z => by rw [q] at z; cases z)
            exact ct.nx _ _ _ _ w2 R2 (e1.trans e2) rfl
        | _ => rw [hd] at w1'; exact w1'.elim
      | _ => rw [q] at w1'; exact w1'.elim
end
end PP
set_option Elab.async false
set_option linter.all false
set_option maxRecDepth 100000
set_option maxHeartbeats 4000000
namespace L2
open PySem PySem.Spec PyProof.Rows
def kyOf (e : Int × Value) : Key := match e.2 with
  | .int k _ => .inl k
  | .str k _ => .inr k
  | _ => .inl 0
def GdE (P : Program) (w : World) (e : Int × Value) : Prop := ∃ k, RelV (kV k) e.2 ∧ e.1 = (mixKind P w).hash k
/-- the set of keys at a -/
def SetM (P : Program) (w : World) (h : Heap) (a : Addr) (S : Key → Bool) (n : Nat) : Prop :=
  ∃ o es ep t, h.get? a = some o ∧ o.ExactSet ∧ o.data = .set es ep t ∧ (∀ e ∈ es.toList, GdE P w e) ∧ (es.toList.map kyOf).Nodup ∧ (∀ k, S k = true ↔ k ∈ es.toList.map kyOf) ∧
    es.size < scanBound ∧ t.fits es.size = true ∧ es.size = n ∧ Ris t.place.toList ∧ (w.params.followText "set-order" = true ∨ t.led = true)
section
variable {P : Program} {w : World} {h h' : Heap} {a : Addr} {S : Key → Bool} {n : Nat}
theorem SetM.at (R : SetM P w h a S n) (k : ∀ o, h.get? a = some o → h'.get? a = some o) : SetM P w h' a S n := by
  obtain ⟨o, es, ep, t, ho, r⟩ := R
  exact ⟨o, es, ep, t, k o ho, r⟩
end
end L2
set_option Elab.async false
set_option linter.all false
set_option maxRecDepth 100000
set_option maxHeartbeats 4000000
namespace L2
open PySem PySem.Spec PyProof.Rows
end L2
set_option Elab.async false
set_option linter.all false
set_option maxRecDepth 100000
set_option maxHeartbeats 2000000
namespace L2
open PySem PySem.Spec PyProof.Rows
end L2
set_option Elab.async false
set_option linter.all false
set_option maxRecDepth 100000
set_option maxHeartbeats 2000000
namespace PP
open PySem L2
section
variable {G : Gc} {A : AS} {H : Hp}
/-- the same keys, the values' data -/
structure Prl {κ : Type} (G : Gc) (A : AS) (H : Hp) (kvs : List (κ × V)) (ds : List (κ × D)) : Prop where
  k : kvs.map (·.1) = ds.map (·.1)
  v : FzL G A H (kvs.map (·.2)) (ds.map (·.2))
theorem Prl.nil {κ : Type} : Prl (κ := κ) G A H [] [] := ⟨rfl, .nil⟩
theorem Prl.cons {κ : Type} {k : κ} {v : V} {d : D} {kvs : List (κ × V)} {ds : List (κ × D)} (h : Fz G A H v d) (t : Prl G A H kvs ds) : Prl G A H ((k, v) :: kvs) ((k, d) :: ds) :=
  ⟨by rw [List.map_cons, List.map_cons, t.k], .cons h t.v⟩
theorem Prl.inv {κ : Type} : ∀ {kvs : List (κ × V)} {ds : List (κ × D)}, Prl G A H kvs ds → (kvs = [] ∧ ds = []) ∨ ∃ k v d kvs' ds', kvs = (k, v) :: kvs' ∧ ds = (k, d) :: ds' ∧ Fz G A H v d ∧ Prl G A H kvs' ds'
  | [], [], _ => .inl ⟨rfl, rfl⟩
  | [], _ :: _, h => nomatch h.k
  | _ :: _, [], h => nomatch h.k
  | (k, v) :: kvs, (k', d) :: ds, ⟨h1, h2⟩ => by
    rw [List.map_cons, List.map_cons, List.cons.injEq] at h1
    obtain ⟨e, h1⟩ := h1
    have e : k = k' := e
    subst e
    rw [List.map_cons, List.map_cons] at h2
    cases h2 with
    | cons a b => exact .inr ⟨_, _, _, _, _, rfl, rfl, a, h1, b⟩
theorem Prl.append {κ : Type} {kvs kvs' : List (κ × V)} {ds ds' : List (κ × D)} (a : Prl G A H kvs ds) (b : Prl G A H kvs' ds') : Prl G A H (kvs ++ kvs') (ds ++ ds') :=
  ⟨by rw [List.map_append, List.map_append, a.k, b.k], by rw [List.map_append, List.map_append]; exact a.v.append b.v⟩
theorem Prl.any {κ : Type} [DecidableEq κ] (k : κ) {kvs : List (κ × V)} {ds : List (κ × D)} (a : Prl G A H kvs ds) : (kvs.any fun kv => decide (kv.1 = k)) = ds.any fun kv => decide (kv.1 = k) := by
  have e : ∀ {α : Type} (l : List (κ × α)), (l.any fun kv => decide (kv.1 = k)) = (l.map (·.1)).any fun x => decide (x = k) := fun l => by rw [List.any_map]; rfl
  rw [e, e, a.k]
theorem Prl.set {κ : Type} [DecidableEq κ] (k : κ) {v : V} {d : D} (h : Fz G A H v d) : ∀ (kvs : List (κ × V)) (ds : List (κ × D)), Prl G A H kvs ds → Prl G A H (kvs.map fun kv => if kv.1 = k then (kv.1, v) else kv) (ds.map fun kv => if kv.1 = k then (kv.1, d) else kv)
  | kvs, ds, a => by
    induction kvs generalizing ds with
    | nil =>
      rcases a.inv with ⟨_, rfl⟩ | ⟨_, _, _, _, _, e, _⟩
      · exact .nil
      · cases e
    | cons p kvs ih =>
      rcases a.inv with ⟨e, _⟩ | ⟨k', v', d', kvs', ds', e, rfl, z, t⟩
      · cases e
      · cases e
        rw [List.map_cons, List.map_cons]
        by_cases q : k' = k
        · rw [if_pos q, if_pos q]; exact .cons h (ih _ t)
        · rw [if_neg q, if_neg q]; exact .cons z (ih _ t)
theorem Prl.put {κ : Type} [DecidableEq κ] (k : κ) {v : V} {d : D} {kvs : List (κ × V)} {ds : List (κ × D)} (h : Fz G A H v d) (a : Prl G A H kvs ds) : Prl G A H (putK kvs k v) (putD ds k d) := by
  unfold putK putD
  rw [a.any k]
  split
  · exact Prl.set k h _ _ a
  · exact a.append (.cons h .nil)
end
end PP
set_option Elab.async false
set_option linter.all false
set_option maxRecDepth 100000
set_option maxHeartbeats 4000000
namespace L2
open PySem PySem.Spec PyProof.Rows
theorem PSs.ex {α : Type} {X : Cx} {st : List Stmt} {p : α → Prop} {t : α → TS} (h : ∀ a, p a → PSs X st (t a)) : PSs X st (fun D σ H => ∃ a, p a ∧ t a D σ H) :=
  ⟨fun pins s σ H D I ⟨a, ha, w⟩ => (h a ha).run pins s σ H D I w⟩
end L2
namespace PP
open PySem L2
/-- a law: whatever is drawn, it gives True -/
def LawOk (Γ : Env) (n : Nat) (code : List Sx) : Prop := ∀ c : Stm, c.c = 0 → exSs Γ code ⟨fun _ => False, fun r _ => r = .fz (.bl true), fun _ => False, fun _ => False, noX⟩ ⟨none :: some .stm :: List.replicate (n - 2) none, c⟩
/-- the law's promise -/
def spLaw (K : PySem.W.Frag) (tb : List (Addr × Str)) : Sp := fun vs H Q _ => ∃ (a : Addr) (ns : List Int), LamX.Tabs tb H ∧ vs = [.ref a] ∧ SqL K H a (ns.map V.int) ∧ ns.length ≤ 63 ∧ (∀ z ∈ ns, Builtin.Int.intBits z ≤ 1048576) ∧ ∀ H', Q (.bl true) H'
/-- the first statement: the stream is laid; then the rest, over some frame -/
def t_law (K : PySem.W.Frag) (G : Gc) (Γ : Env) (code : List Sx) : TS :=
  tSeq (tAsg (tLst (tCons (tCB (fun xs H Q => ∃ p ys, xs = [V.ref p] ∧ (SqL K H p ys ∨ SqT K H p ys) ∧ ∀ l, H l = none → Q (V.ref l) (upd H l (.lst ys))) (tCons (tVar 0) tNil)) (tCons (tC (.int 0)) (tCons (tC (.int 0)) (tCons (tC (.int 0)) tNil))))) (gName 1))
    (fun D σ H => ∃ Fm : Fm, (Fm.G = G ∧ Fm.T.tb = G.tb) ∧ LS Fm noX (exSs Γ code) D σ H)
theorem gt_none2 : ∀ (k i : Nat) {p : P}, gt (none :: some P.stm :: List.replicate k none) i = some p → i = 1 ∧ p = .stm
  | k, 0, p, h => by cases h
  | k, 1, p, h => by cases h; exact ⟨rfl, rfl⟩
  | k, i + 2, p, h => by
    have h' : gt (List.replicate k none) i = some p := h
    rw [gt_eq, List.getElem?_replicate] at h'
    split at h' <;> cases h'
section
variable {P : Program} {w : World} {K : PySem.W.Frag} {mg : Str → Option Value} {base : Heap} {params : Arguments} {body : List Stmt} {scope : Scope} {kws : List (Str × V)} {f : Addr} {fd : FuncData}
theorem law_pure {G : Gc} {Γ : Env} {N : List Str} {k : Nat} {code : List Sx} {x : Str} (F : FunD K "law" "law" params body scope [] kws f fd) (S : FnScope N [x] scope) (hN : 2 ≤ N.length) (hK : K = G.K)
    (hd : ∀ (cdv : Value) (A : Around) (outer : List PySem.Env) (s : Shared) (H : Hp) (E : XK), fd.code = cdv → RoomG k (A.deeper (PyProof.Rows.envOfC "law" scope s.heap.objs.size f cdv)) → (cxOf CX0 P w K mg base N "law" scope f cdv A outer s H E).nox.N.Nodup →
      PSs (cxOf CX0 P w K mg base N "law" scope f cdv A outer s H E).nox body (t_law K G Γ code))
    (hp : LawOk Γ N.length code) : FnOg P w K mg base CX0 (k + 1) f fd [x] (spLaw K G.tb) := by
  refine F.okgC S (fun vs H Q E h => ?_) fun cdv A outer s H vs Q E hcv hr h => ?_
  · obtain ⟨a, ns, _, rfl, _⟩ := h
    rfl
  obtain ⟨a, ns, hT, rfl, hS, h63, hbits, hQ⟩ := h
  refine ⟨_, PSs.nox (hd cdv A outer s H E hcv hr S.nd), ?_⟩
  refine ⟨.ref a, rfl, a, _, rfl, .inl hS, fun l hl => ⟨show 4 ≤ sizeLine by decide, fun p hp0 => ?_⟩⟩
  have hpl : p ≠ l := fun e => by rw [e, upd_same] at hp0; cases hp0
  let T : SA := ⟨p, l, G.tb⟩
  let H2 : Hp := upd (upd H l (.lst (ns.map V.int))) p (.lst [.ref l, .int 0, .int 0, .int 0])
  have es : H2 p = some (.lst [.ref l, .int 0, .int 0, .int 0]) := upd_same
  have el : H2 l = some (.lst (ns.map V.int)) := by show upd _ _ _ _ = _; rw [upd_ne hpl.symm, upd_same]
  have st : StrOk T H2 ⟨ns, 0, 0, 0⟩ := ⟨hpl, es, el, h63, hbits, Int.le_refl 0, show Builtin.Int.intBits 0 ≤ 1048576 by decide, Int.le_refl 0, show (0 : Int) < 2147483647 by decide, tabs_keep (tabs_keep hT (tbk_new hl)) (tbk_new hp0)⟩
  have sg : ((start N [V.ref a]).set 1 (some (.ref p)))[1]? = some (some (.ref p)) := by
    rw [List.getElem?_set_self]
    unfold L2.start
    simp; omega
  refine ⟨⟨G, T, H2, T.A, T.A⟩, ⟨rfl, rfl⟩, fun _ => none, ⟨none :: some .stm :: List.replicate (N.length - 2) none, ⟨ns, 0, 0, 0⟩⟩, _, ?_, hp ⟨ns, 0, 0, 0⟩ rfl, rfl, ⟨fun s' σ' H' ow' w _ _ _ => w.elim, fun _ _ _ _ w => w.elim, fun _ _ _ _ w => w.elim, fun r s' v σ' H' ow' w R e => ?_⟩⟩
  · refine ⟨Keep.refl _ _ _, st, fun _ z => z, fun _ z => z, fun a z => .inl z, fun a z => ?_, fun a z => .inl z, fun _ _ e => (by cases e), fun _ _ _ e => (by cases e), fun _ _ e => (by cases e), ?_, fun i q e => ?_⟩
    · exact st.it z
    · show (none :: some PP.P.stm :: List.replicate (N.length - 2) none).length = _
      unfold L2.start
      simp; omega
    · obtain ⟨rfl, rfl⟩ := gt_none2 _ i e
      exact ⟨_, sg, rfl, rfl⟩
  · have w : r = .fz (.bl true) := w
    subst w
    cases R.2
    exact hQ H'
theorem ioE_of {G : Gc} {Γ : Env} {N ps : List Str} {k ix : Nat} {con : ConIO} {code : List Sx} {x : Str} (F : FunD K x x params body scope [] kws f fd) (S : FnScope N ps scope) (hN : ps.length ≤ N.length) (hK : K = G.K) (hm : mg x = some (.ref f)) (hb : Binds K fd ps [])
    (hd : ∀ (cdv : Value) (A : Around) (outer : List PySem.Env) (s : Shared) (H : Hp) (E : XK) (Fm : Fm), Fm.G = G → Gd (cxOf CX0 P w K mg base N x scope f cdv A outer s H E).nox Fm noX → RoomG k (A.deeper (PyProof.Rows.envOfC x scope s.heap.objs.size f cdv)) →
      SBX (cxOf CX0 P w K mg base N x scope f cdv A outer s H E).nox Fm noX Γ body code)
    (hp : ImplIO Γ N.length ix con code) (hl : ∀ as xs c K, con as xs c K noXc → as.length = ps.length) : IoE P w K mg base G (k + 1) x ix con :=
  ⟨f, fd, ps, fn_pureIO F S hN hK hd hp, hm, F.kp, hb, hl⟩
theorem liftSp_imp {G : Gc} {np : Nat} {con con' : Con} (h : ∀ as c K e, con' as c K e → con as c K e) {vs : List V} {H : Hp} {Q : VK} {E : XK} (z : liftSp G np con' vs H Q E) : liftSp G np con vs H Q E := by
  obtain ⟨h0, T, A, as, c, K, e, h1, h2, h3, h4, h5, h6, h7⟩ := z
  exact ⟨h0, T, A, as, c, K, e, h1, h2, h3, h4, h5, h _ _ _ _ h6, h7⟩
end
end PP
set_option Elab.async false
set_option linter.all false
set_option maxRecDepth 100000
set_option maxHeartbeats 2000000
namespace PP
open PySem L2
section
variable {X : Cx} {pins : List (Addr × Obj)} {σ : L2.St} {H : Hp} {s : Shared} {G : Gc} {A : AS}
theorem kv_reads (P : Program) (w : World) (h : Heap) : ∀ {es : List DictEntry} {vs : List (Key × Value)}, Pairs (mixKind P w) es vs → ReadsAll h (es.map (·.key)) (vs.map fun kv => kyP kv.1) [] 
  | _, _, .nil => .nil
  | e :: es, kv :: kvs, .cons hk hv t => by
    have r := kv_reads P w h t
    rw [List.map_cons, List.map_cons]
    have h1 : Reads h e.key (kyP kv.1) [] := by
      rcases keyIs_shape (show keyIs kv.1 e.key = true from hk) with ⟨i, tk, e1, e2⟩ | ⟨x, tk, e1, e2⟩
      · rw [e1, e2]; exact .int i tk
      · rw [e1, e2]; exact .str x tk
    exact ReadsAll.cons (as := []) (bs := []) h1 r
theorem pairs_vals {P : Program} {w : World} : ∀ {es : List DictEntry} {vs : List (Key × Value)}, Pairs (mixKind P w) es vs → es.map (·.val) = vs.map (·.2)
  | _, _, .nil => rfl
  | e :: es, kv :: kvs, .cons hk hv t => by rw [List.map_cons, List.map_cons, pairs_vals t, hv]
theorem kv_vals : ∀ {kvs : List (Key × V)} {vs : List (Key × Value)}, KV kvs vs → Vals (kvs.map (·.2)) (vs.map (·.2)) ∧ kvs.map (·.1) = vs.map (·.1)
  | _, _, .nil => ⟨.nil, rfl⟩
  | _, _, .cons h t => by
    obtain ⟨r, e⟩ := kv_vals t
    refine ⟨.cons h.2 r, ?_⟩
    rw [List.map_cons, List.map_cons, e, h.1]
theorem psK_fst : ∀ kvs : List (Key × D), (psK kvs).map (·.1) = (kvs.map (·.1)).map kyP
  | [] => rfl
  | (k, d) :: r => by simp [psK, psK_fst r]
theorem psK_snd : ∀ kvs : List (Key × D), (psK kvs).map (·.2) = pss (kvs.map (·.2))
  | [] => rfl
  | (k, d) :: r => by simp [psK, pss, psK_snd r]
theorem psOkK_eq : ∀ kvs : List (Key × D), psOkK kvs = psOks (kvs.map (·.2))
  | [] => rfl
  | (k, d) :: r => by simp [psOkK, psOks, psOkK_eq r]
theorem smNot (hK : X.K = G.K) (I : Inv X pins σ H s) {a : Addr} {o : Obj} {T : String} (ho : s.heap.get? a = some o) (hc : o.cls = .type T) (hT : T ≠ "dict") : sysModules ≠ a := by
  rintro rfl
  obtain ⟨o', l, c⟩ := G.sm
  have e := I.kIn _ _ (by rw [hK]; exact l)
  rw [ho] at e
  cases e
  rw [hc] at c
  exact hT (Value.type.inj c)
mutual
theorem Fz.rds (hK : X.K = G.K) (I : Inv X pins σ H s) : ∀ {v : V} {d : D} {u : Value}, psOk d = true → Fz G A H v d → RelV v u → ∃ as, Reads s.heap u (ps d) as ∧ sysModules ∉ as
  | _, _, _, _, .non, r => by cases r; exact ⟨[], .none, by simp⟩
  | _, _, _, _, .bl b, r => by cases r; exact ⟨[], .bool b, by simp⟩
  | _, _, _, _, .int i, r => by obtain ⟨t, rfl⟩ := r; exact ⟨[], .int i t, by simp⟩
  | _, _, _, _, .str x, r => by obtain ⟨t, rfl⟩ := r; exact ⟨[], .str x t, by simp⟩
  | _, _, _, hp, .lst n e l, r => by
    cases r
    obtain ⟨its, rv, ⟨o, m, ho, hc, _, hd⟩, _⟩ := I.list (SqL.of (K := X.K) e)
    obtain ⟨as, hr, ns⟩ := FzL.rds hK I hp l rv
    exact ⟨_, .list ho hc hd hr, by rw [List.mem_cons]; rintro (z | z); exact smNot hK I ho hc (by decide) z; exact ns z⟩
  | _, _, _, hp, .tup n e l, r => by
    cases r
    obtain ⟨its, rv, ⟨o, ho, hc, m, hd⟩, _⟩ := I.tuple (SqT.of (K := X.K) e)
    obtain ⟨as, hr, ns⟩ := FzL.rds hK I hp l rv
    exact ⟨_, .tuple ho hc hd hr, ns⟩
  | _, _, _, hp, .kt e l, r => by
    cases r
    obtain ⟨o, its, m, hl, hc, hd, _, rv⟩ := e
    obtain ⟨as, hr, ns⟩ := FzL.rds hK I hp l rv
    exact ⟨_, .tuple (I.kIn _ _ (by rw [hK]; exact hl)) hc hd hr, ns⟩
  | _, .dct ds, _, hp, .dct n e q l, r => by
    cases r
    obtain ⟨z, lo, vs, rk, o, es, ep, ho, hc, hd, _, hpr, _⟩ := dk_rd I.hok e
    obtain ⟨rv, ek⟩ := kv_vals rk
    obtain ⟨as, hr, ns⟩ := FzL.rds hK I (show psOks _ = true by rw [← psOkK_eq]; exact hp) l rv
    have r1 : ReadsAll s.heap (es.toList.map (·.key)) ((psK ds).map (·.1)) [] := by
      have := kv_reads X.prog X.w s.heap hpr
      rw [psK_fst, ← q, ek, List.map_map]
      exact this
    have r2 : ReadsAll s.heap (es.toList.map (·.val)) ((psK ds).map (·.2)) as := by
      rw [psK_snd, pairs_vals hpr]; exact hr
    refine ⟨_, .dict ho hc.1 hd r1 r2, fun q => ?_⟩
    rw [List.mem_append, List.mem_cons] at q
    rcases q with (q | q) | q
    · rw [← q] at lo; simp at lo
    · cases q
    · exact ns q
  | _, _, _, hp, .dctT _ _ _ _, _ => by cases hp
  | _, _, _, hp, .obj _ _ _ _, _ => by cases hp
theorem FzL.rds (hK : X.K = G.K) (I : Inv X pins σ H s) : ∀ {v : List V} {d : List D} {u : List Value}, psOks d = true → FzL G A H v d → Vals v u → ∃ as, ReadsAll s.heap u (pss d) as ∧ sysModules ∉ as
  | _, _, _, _, .nil, r => by cases r; exact ⟨[], .nil, by simp⟩
  | _, _, _, hp, .cons a b, r => by
    rw [psOks, Bool.and_eq_true] at hp
    cases r with
    | cons r1 r2 =>
      obtain ⟨as, q1, n1⟩ := Fz.rds hK I hp.1 a r1
      obtain ⟨bs, q2, n2⟩ := FzL.rds hK I hp.2 b r2
      exact ⟨as ++ bs, .cons q1 q2, by
        rw [List.mem_append]; rintro (q | q)
        · exact n1 q
        · exact n2 q⟩
end
end
theorem View.rds {X : Cx} {pins : List (Addr × Obj)} {σ : L2.St} {H : Hp} {s : Shared} {F : Fm} {A : AS} (hK : X.K = F.G.K) (I : Inv X pins σ H s) {v : V} {d : D} {u : Value} (hp : psOk d = true) (h : View F A H v d) (r : RelV v u) : ∃ as, Reads s.heap u (ps d) as ∧ sysModules ∉ as := by
  cases d with
  | lst xs =>
    obtain ⟨a, vs, rfl, e, l⟩ := h
    exact Fz.rds (A := fun _ => False) hK I hp (.lst (A := fun _ => False) (fun z => z) e (l.mono fun _ z => z.elim)) r
  | dct ds =>
    obtain ⟨a, vs, rfl, e, ek, l⟩ := h
    exact Fz.rds (A := fun _ => False) hK I hp (.dct (A := fun _ => False) (fun z => z) e ek (l.mono fun _ z => z.elim)) r
  | _ => exact Fz.rds hK I hp h r
def rRepr (F : Fm) : List V → Hp → VK → Prop := fun xs H Q => ∃ A v d, xs = [v] ∧ View F A H v d ∧ reprOk d = true ∧ (ps d).shown.length ≤ sizeLine ∧ Q (.str (ps d).shown) H
theorem cr_repr {X : Cx} {F : Fm} (g : Gd X F E) : CallR X (.builtin "repr") (rRepr F) := by
  intro pins s σ H xs us Q I r h
  obtain ⟨A, v, d, rfl, hz, hok, hl, q⟩ := h
  obtain ⟨u, rfl, ru⟩ := vals1 r
  unfold reprOk at hok
  simp only [Bool.and_eq_true, decide_eq_true_eq] at hok
  obtain ⟨h1, h3, h4⟩ := hok
  obtain ⟨as, rd, ns⟩ := hz.rds g.hK I h1 ru
  have hsm : (ps d).hasDict = true → sysModules ∉ as := fun _ => ns
  have hu := g.u
  have fin : ∀ tk, EP X pins σ Q (.str (ps d).shown s.toks) { s with toks := tk } := fun tk => ⟨.str _, H, I.tok _, ⟨_, rfl⟩, q⟩
  cases d with
  | non => cases rd; exact PySem.P.repr_of_none (fin _)
  | bl b =>
    cases rd
    refine PySem.P.repr_of_bool ?_
    have := fin (s.toks + 1)
    cases b <;> exact this
  | int i =>
    cases rd
    exact PySem.P.repr_of_int (by simpa [ps, PyData.showable] using h3) (fin _)
  | str x =>
    cases rd
    exact PySem.P.repr_of_str (fin _) hl
  | dctT _ => cases h1
  | obj _ _ => cases h1
  | _ =>
    cases ru' : u with
    | ref a =>
      rw [ru'] at rd
      exact repr_of_reads' rd h3 hsm g.gs (by omega) (fun _ _ e => e) (fun h' u' tk hk => ⟨.str _, H, I.kept hk, ⟨_, rfl⟩, q⟩) hl
    | _ => rw [ru'] at rd; cases rd
theorem cs_repr {F : Fm} {E : XC} : CallS F E (qBi .repr) (rRepr F) := by
  intro Z ow σ H s K xs vs Q R hx w k
  match xs, hx, w with
  | [d], hx, w =>
    obtain ⟨v, rfl, h⟩ := views1 hx
    obtain ⟨⟨w1, w2⟩, w3⟩ := (show (reprOk d = true ∧ (ps d).shown.length ≤ sizeLine) ∧ K (.fz (.str (ps d).shown)) s from w)
    exact ⟨_, v, d, rfl, h, w1, w2, k _ _ _ _ _ w3 (rr_sc R (.str _) rfl) (Eff.refl _ _ _ _)⟩
section
variable {X : Cx} {F : Fm} {E : XC} {Γ : Env} {a b c : Expr} {ia ib ic : Ex} {pos : Pos}
theorem sx_repr (g : Gd X F E) {p : Pos} (hm : X.mg "repr" = none) (ha : AVX X F E Γ [a] [ia]) (hg : Gl X "repr" := by rfl) (he : starEach [a] X.env = (false, eval a X.env) :: starEach [] X.env := by rfl) : SX X F E Γ (.Call (.Name "repr" p) [a] [] pos) (.bi .repr [ia]) :=
  sx_bi (r := rRepr F) (cr_repr g) cs_repr hm (by decide +kernel) ha hg (by decide) (by decide) he rfl
end
end PP
set_option Elab.async false
set_option linter.all false
set_option maxRecDepth 100000
set_option maxHeartbeats 2000000
namespace PP
open PySem L2
structure OEq (K : PySem.W.Frag) (C f : Addr) : Prop where
  eq : PySem.W.findIn K (.ref C) "__eq__" = some (some (.ref f))
  fn : PySem.W.isFn K (.ref f) = true
  ne : PySem.W.findIn K (.ref C) "__ne__" = some (some (.builtin "object.__ne__"))
  ob : PySem.W.mroIn K C (.type "object") = some true
structure SubG (X : Cx) (n : Nat) (A : Around) : Prop where
  room : RoomG n A
  fr : A.frames = X.A.frames
theorem SubG.in1 {X : Cx} {n : Nat} {A : Around} (s : SubG X (n + 1) A) : SubG X n A.in1 := ⟨⟨s.room.r.in1, s.room.g⟩, s.fr⟩
/-- a def runs, called from below the running body -/
theorem run_below {X : Cx} {CX : CXT} {k : Nat} {f : Addr} {fd : FuncData} {ps : List Str} {sp : Sp} {E : XK} {A : Around} {pins : List (Addr × Obj)} {s : Shared} {σ : L2.St} {H : Hp} {vs : List V} {us : List Value} {Q : VK}
    (F : FnOg X.prog X.w X.K X.mg X.base CX k f fd ps sp) (sb : SubG X k A) (hb : Binds X.K fd ps []) (hx : Passes CX X E) (I : Inv X pins σ H s) (r : Vals vs us) (h : sp vs H Q E) :
    wpAny (model X.prog X.w) A (call (.ref f) us) (EP X pins σ Q) X.xe s := by
  have e0 : Env0 X.prog X.w X.K X.mg X.base A X.stack s H := by
    have e := I.env0
    exact ⟨by rw [sb.fr]; exact e.frames, e.mod, e.bs, e.bsz, e.funs, e.frf, e.hok, e.bare⟩
  have hl := F.len _ _ _ _ h
  have hl' : us.length = ps.length := by rw [← r.length]; exact hl
  refine wpAny_call (codeAny_mono (F.run A X.stack s H ⟨us, []⟩ us vs _ E sb.room e0 (by
    have := hb s us I.kIn (by simpa using hl')
    simpa using this) r h) fun r s' hq => ?_)
  cases r with
  | error e => exact hx pins σ H s e s' I hq
  | ok fl =>
    cases fl with
    | ret w => exact I.after hq
    | next => exact False.elim hq
    | brk => exact False.elim hq
    | cont => exact False.elim hq
def rOeq (C : Addr) (sp : Sp) (E : XK) (neg : Bool) : R2 := fun x y H Q => ∃ a b dx dy fs gs, x = .ref a ∧ y = .ref b ∧ H a = some (.ins C dx fs) ∧ H b = some (.ins C dy gs) ∧
  sp [.ref a, .ref b] H (fun v H' => ∃ r, v = .bl r ∧ Q (.bl (if neg then !r else r)) H') E
section
variable {X : Cx} {CX : CXT} {k : Nat} {C f : Addr} {fd : FuncData} {ps : List Str} {sp : Sp} {E : XK}
theorem ne_check {M : Model} {A : Around} {E : Value → Shared → Prop} {K : PySem.W.Frag} {s : Shared} {x : Addr} {y : Value} {ox : Obj} {od : Option Obj} {Q : Unit → Shared → Prop} (hK : K.In s.heap) (J : PySem.W.InstAt s.heap x ox C od) (hs : OEq K C f) (hq : Q () s) :
    wpAny M A (checkBuiltinCall "object.__ne__" ⟨[.ref x, y], []⟩) Q E s := by
  have ha := PySem.F.cmpArgs_ne (.ref x) y
  simp only [checkBuiltinCall, PySem.F.cmpKind_ne, PySem.F.cmpSplit_ne]
  refine wpAny_bind ?_
  unfold isInstance
  refine wpAny_bind (J.type.here ((PySem.W.looks_subIn (t := .ref C) (base := .type "object") hK hs.ob).here ?_))
  refine PySem.W.KFB.if_not rfl ?_
  cases hsig : Manifest.signature? "object.__ne__" with
  | none => exact wpAny_pure hq
  | some sig =>
    simp only [argsOk, hsig] at ha
    have h2 : Bind.checkArgs "object.__ne__" sig ⟨[.ref x, y], []⟩ = pure () := ha
    show wpAny M A (Bind.checkArgs "object.__ne__" sig ⟨[.ref x, y], []⟩) Q E _
    rw [h2]; exact wpAny_pure hq
theorem ne_entry {prog : Program} {w : World} {A : Around} {E : Value → Shared → Prop} {K : PySem.W.Frag} {s : Shared} {x y : Addr} {ox : Obj} {od : Option Obj} {Q : Fin → Shared → Prop} (hK : K.In s.heap) (J : PySem.W.InstAt s.heap x ox C od) (hs : OEq K C f) (hu : A.units < cLine)
    (hcall : wpAny (model prog w) A (call (.ref f) [.ref x, .ref y]) (fun v s' => ∃ b, v = .bool b ∧ Q (.done (.ret (.bool (!b)))) s') E s) : wpAny (model prog w) A (Builtin.«object.__ne__» ⟨[.ref x, .ref y], []⟩) Q E s := by
  unfold Builtin.«object.__ne__»
  repeat (first
    | with_reducible refine wpAny_cRoomFor hu ?_
    | (refine wpAny_bind (m := callSpecialIfBound? (.ref x) (Str.ofString "__eq__") [.ref y])
        (PySem.W.ifBound_K hK J hs.eq hs.fn (wpAny_mono hcall (fun r s' hr => by
          obtain ⟨b, rfl, hq⟩ := hr
          repeat (first | exact hq | exact wpAny_pure hq | exact wpAny_truthy_bool hq | (refine wpAny_bind (m := truthy (.bool _)) (wpAny_truthy_bool ?_)) | wp_step)) fun _ _ e => e)))
    | wp_step)
theorem ne_try {prog : Program} {w : World} {A : Around} {E : Value → Shared → Prop} {K : PySem.W.Frag} {s : Shared} {x y : Addr} {ox : Obj} {od : Option Obj} {Q : Option Value → Shared → Prop} (hK : K.In s.heap) (J : PySem.W.InstAt s.heap x ox C od) (hs : OEq K C f) (hu : A.units + 1 < cLine)
    (hcall : wpAny (model prog w) A.in1 (call (.ref f) [.ref x, .ref y]) (fun v s' => ∃ b, v = .bool b ∧ Q (some (.bool (!b))) s') E s) : wpAny (model prog w) A (tryCompare (.ref x) "__ne__" (.ref y)) Q E s := by
  simp only [tryCompare]
  refine wpAny_bind ?_
  simp only [callSpecialIfBound?, bindSpecialIfBound?]
  refine wpAny_holding (wpAny_bind (wpAny_bind (wpAny_bind (J.type.here ((PySem.W.looks_findIn hK hs.ne).here ?_)))))
  simp only [PySem.F.cmp_object.ne.bind]
  refine wpAny_bind (wpAny_askSetting (wpAny_ite ?_))
  have fin : wpAny (model prog w) A (call (.builtin "object.__ne__") ([.ref x] ++ [.ref y]) >>= fun v => pure (some v)) (fun r s' => wpAny (model prog w) A (match r with | some .notImplemented | none => pure none | some v => pure (some v)) Q E s') E s := by
    refine wpAny_bind ?_
    refine wpAny_call (codeAny_call_builtin PySem.F.cmp_object.ne.plain PySem.F.cmpEntry_ne (ne_check hK J hs (ne_entry (A := A.in1) hK J hs hu (wpAny_mono hcall (fun v s' hv => ?_) fun _ _ e => e))))
    obtain ⟨b, rfl, hq⟩ := hv
    exact ⟨b, rfl, wpAny_pure (wpAny_pure hq)⟩
  split
  · exact wpAny_bind (wpAny_pure (wpAny_pure fin))
  · exact wpAny_tryCatch (wpAny_bind (wpAny_pure (wpAny_pure fin)))
theorem op_one (F : FnOg X.prog X.w X.K X.mg X.base CX k f fd ps sp) (hs : OEq X.K C f) (hb : Binds X.K fd ps []) (hx : Passes CX X E) (hr : RoomG (k + 1) X.A) (hu : X.A.units + 1 < cLine) : OpR X (compareOp .NotEq) (rOeq C sp E true) := by
  intro pins s σ H x y v u Q I rx ry h
  obtain ⟨a, b, dx, dy, fs, gs, rfl, rfl, ha, hb', hsp⟩ := h
  cases rx
  cases ry
  obtain ⟨mA, J, _⟩ := ins_get I.hok ha
  obtain ⟨mB, J', _⟩ := ins_get I.hok hb'
  obtain ⟨od, J, _⟩ := J.look
  obtain ⟨od', J', _⟩ := J'.look
  show wpAny (model X.prog X.w) X.A (richCompare .NotEq (.ref a) (.ref b)) (EP X pins σ Q) X.xe s
  unfold richCompare
  simp only [oneThing_ref]
  refine wpAny_holding (wpAny_bind (wpAny_cRoomFor (Nat.lt_of_succ_lt hu) ?_))
  refine wpAny_bind (J.type.here (wpAny_bind (J'.type.here ?_)))
  rw [show (Value.ref C != Value.ref C) = false from by simp]
  simp only [Bool.false_eq_true, if_false]
  refine wpAny_bind (wpAny_pure ?_)
  simp only [Bool.false_eq_true, if_false]
  refine wpAny_bind (ne_try I.kIn J hs hu ?_)
  refine thn (run_below F (SubG.in1 ⟨hr, rfl⟩) hb hx I (show Vals [V.ref a, V.ref b] [Value.ref a, Value.ref b] from .cons rfl (.cons rfl .nil)) hsp) fun w s' ⟨z, H', I', rz, r, ez, q⟩ => ?_
  subst ez
  cases rz
  exact ⟨r, rfl, wpAny_pure ⟨.bl (!r), H', I', rfl, q⟩⟩
end
end PP
set_option Elab.async false
set_option linter.all false
set_option maxRecDepth 100000
set_option maxHeartbeats 2000000
namespace PP
open PySem L2
section
variable {X : Cx} {F : Fm} {E : XC} {Γ : Env} {a tg : Expr} {ia : Ex} {pos : Pos}
theorem cs_isO {c : Str} {w : V} {C : Addr} (hw : F.G.ga c = C) : ∀ (Z : AS) (ow : Ow) (σ : L2.St) (H : Hp) (s : S) (K : R → S → Prop) (x : D) (vx : V) (Q : VK), Rep F Z ow σ H s → View F (Av' Z ow) H vx x → qIsO c x s K E →
    (∀ r s' v H' ow', K r s' → RR F Z H ow' σ H' s' v r → Eff F Z ow H ow' H' → Q v H') → ∃ a dx fs, vx = .ref a ∧ H a = some (.ins C dx fs) ∧ Q (.bl true) H := by
  intro Z ow σ H s K x vx Q R hx w k
  cases x with
  | obj c' ds =>
    obtain ⟨e1, w2⟩ := (show c' = c ∧ K (.fz (.bl true)) s from w)
    obtain ⟨a, dx, fs, rfl, na, e, _, _⟩ := fz_obj (show Fz F.G (Av' Z ow) H vx (.obj c' ds) from hx)
    rw [e1, hw] at e
    exact ⟨a, dx, fs, rfl, e, k _ _ _ _ _ w2 (rr_sc R (.bl true) rfl) (Eff.refl _ _ _ _)⟩
  | _ => exact w.elim
theorem sx_isO (g : Gd X F E) {c : Str} {p pc : Pos} (hm : X.mg "isinstance" = none) (hmc : X.mg c = some (.ref (F.G.ga c))) (hc : C8.InsC X.K (F.G.ga c)) (ha : VX X F E Γ a ia) (hg : Gl X "isinstance" := by rfl) (hgc : Gl X c := by rfl) (hd : (c == ("__debug__" : Str)) = false := by decide)
    (he : starEach [a, .Name c pc] X.env = (false, eval a X.env) :: starEach [.Name c pc] X.env := by rfl) (he2 : starEach [.Name c pc] X.env = (false, eval (.Name c pc) X.env) :: starEach [] X.env := by rfl) (hpl : (backTo pos (starEach [.Name c pc] X.env)).any (·.1) = false := by rfl) :
    SX X F E Γ (.Call (.Name "isinstance" p) [a, .Name c pc] [] pos) (.isO ia c) :=
  PEimp (pe_callB (C8.call_isC hc) hg hm (by decide +kernel) (pa_cons ha (pa_cons (pe_glob (v := .ref (F.G.ga c)) hgc hmc rfl hd) pa_nil he2) he) (by decide) (by decide) he hpl) fun σ H Q h => by
    obtain ⟨Z, ow, s, K, R, hf, hq⟩ := h
    refine ⟨Z, ow, s, _, R, hf, fun x s1 v1 H1 ow1 k1 R1 o1 e1 => ?_⟩
    obtain ⟨dx, w1, hx⟩ := res_ok R1 o1 k1
    obtain ⟨a1, dx1, fs, rfl, e, q⟩ := cs_isO (w := .non) rfl Z ow1 σ H1 s1 K dx v1 Q R1 hx w1 fun r s' v H' ow' k rr e => hq r s' v H' ow' k (rr.back e1.dm) (e1.trans e)
    exact ⟨a1, dx1, fs, rfl, e, q⟩
theorem args_nil {G : Gc} {T : SA} {A : AS} {H : Hp} {vs : List V} (h : ArgsOk G T A H vs []) : vs = [] := by cases h; rfl
theorem liftSp_ex {G : Gc} {np : Nat} {con : Con} {vs : List V} {H : Hp} {Q : VK} {Ex Ex' : XK} (h : ∀ cls d H, Ex cls d H → Ex' cls d H) (z : liftSp G np con vs H Q Ex) : liftSp G np con vs H Q Ex' := by
  obtain ⟨h0, T, A, as, c, K, e, h1, h2, h3, h4, h5, h6, h7, h8⟩ := z
  exact ⟨h0, T, A, as, c, K, e, h1, h2, h3, h4, h5, h6, h7, fun xn c' cls d H' a b c d => h _ _ _ (h8 xn c' cls _ H' a b c d)⟩
theorem passE0 {X : Cx} : Passes (L2.CX X.prog X.w) X E0 := fun _ _ _ _ _ _ _ ⟨_, _, _, _, _, _, _, _, _, _, _, _, h⟩ => h.elim
theorem lr_oeq (hT : F.T.tb = F.G.tb) {c : Str} {neg : Bool} {con : Con} {dfl : List D} {sc : Bool} {np : Nat} {fa fb : M R} {σ : L2.St} {H : Hp} {Q : VK} (hΓ : Γ.mth c "__eq__" = some (.pl con sc dfl)) (hn : ∀ as c K e, con as c K e → as.length = np)
    (h : LR F E (bnd (toD fa) fun x => bnd (toD fb) fun y => qOeq Γ c neg x y) σ H Q) : tOp (rOeq (F.G.ga c) (liftSp F.G np con) E0 neg) (LR F E fa) (LR F E fb) σ H Q := by
  obtain ⟨Z, ow, s, K, R, hf, hq⟩ := h
  refine ⟨Z, ow, s, _, R, hf, fun r1 s1 v1 H1 ow1 k1 rr1 e1 => ?_⟩
  obtain ⟨R1, z1⟩ := rr1.fz' R
  refine ⟨Z, ow1, s1, _, R1, k1, fun r2 s2 v2 H2 ow2 k2 rr2 e2 => ?_⟩
  obtain ⟨R2, z2⟩ := rr2.fz' R1
  have z1 := R1.fz e2 z1
  cases hd1 : r1.d with
  | obj c1 ds1 =>
    cases hd2 : r2.d with
    | obj c2 ds2 =>
      rw [hd1, hd2] at k2
      rw [hd1] at z1
      rw [hd2] at z2
      obtain ⟨⟨e1', e2'⟩, k3⟩ := k2
      subst e1'
      rw [e2'] at z2
      rw [hΓ] at k3
      obtain ⟨a, dx, fs, rfl, na, ea, eka, la⟩ := fz_obj z1
      obtain ⟨b, dy, gs, rfl, nb, eb, ekb, lb⟩ := fz_obj z2
      refine ⟨a, b, dx, dy, fs, gs, rfl, rfl, ea, eb, ?_⟩
      refine liftSp_ex (Ex := WE (wx F noX) σ) (fun cls d H ⟨_, _, _, _, _, _, w⟩ => w.elim) ?_
      refine lift_of hT (E := noX) (K := fun r s' => notB neg r s' K noX) (scal := false) R2 (lent0 _ _) (.inl rfl) ((ArgsOk.d z1 (.d z2 .nil)).mono fun _ z => lentA0 z) hn k3 fun r s' v H' ow' k rr e => ?_
      cases r with
      | fz d =>
        cases d with
        | bl bb =>
          obtain ⟨R', z⟩ := rr
          cases z
          exact ⟨bb, rfl, hq _ s' _ H' ow' k ⟨R', .bl _⟩ ((e1.trans e2).trans e)⟩
        | _ => exact k.elim
      | _ => exact k.elim
    | _ => rw [hd1, hd2] at k2; exact k2.elim
  | _ => rw [hd1] at k2; exact k2.elim
end
end PP
set_option Elab.async false
set_option linter.all false
set_option maxRecDepth 100000
set_option maxHeartbeats 2000000
namespace PP
open PySem L2
def exCls (c : Str) (K : PySem.W.Frag) : Bool :=
  He.eqO (PySem.W.findIn K (.ref (He.ga K c)) "__class__") (some (some (.builtin "object.__class__"))) &&
  (decide (PySem.W.specialIn K (.builtin "object.__class__") "__get__" = some (some (.builtin "getset_descriptor.__get__"))) &&
  (decide (PySem.W.takesIn K (.builtin "object.__class__") = some true) &&
  (decide (PySem.W.mroIn K (He.ga K c) (.type "object") = some true) &&
  (decide (PySem.W.kitOne K (.ref (He.ga K c)) (.ref (He.ga K c)) = some true) &&
  He.eqO (PySem.W.findIn K (.ref (He.ga K c)) "__ne__") (some (some (.builtin "object.__ne__")))))))
theorem exCls_ok {c : Str} {K : PySem.W.Frag} (h : exCls c K = true) (hc : Cls K (He.ga K c)) : C8.InsC K (He.ga K c) ∧ (PySem.W.findIn K (.ref (He.ga K c)) "__ne__" = some (some (.builtin "object.__ne__")) ∧ PySem.W.mroIn K (He.ga K c) (.type "object") = some true) := by
  obtain ⟨h1, h⟩ := He.ba h
  obtain ⟨h2, h⟩ := He.ba h
  obtain ⟨h3, h⟩ := He.ba h
  obtain ⟨h4, h⟩ := He.ba h
  obtain ⟨h5, h6⟩ := He.ba h
  exact ⟨⟨hc, He.eqO_ok h1, of_decide_eq_true h2, of_decide_eq_true h3, of_decide_eq_true h4, of_decide_eq_true h5⟩, He.eqO_ok h6, of_decide_eq_true h4⟩
end PP
set_option Elab.async false
set_option linter.all false
set_option maxRecDepth 100000
set_option maxHeartbeats 2000000
set_option Elab.async false
set_option linter.all false
set_option maxRecDepth 100000
set_option maxHeartbeats 2000000
namespace PP
open PySem L2
section
variable {X : Cx} {F : Fm} {E : XC} {Γ : Env} {a b : Expr} {ia ib : Ex} {pos : Pos}
theorem notB_bl {neg : Bool} {r : R} {s : S} {K : R → S → Prop} {e : XC} : notB neg r s (fun r s' => K r s' ∧ ∃ b, r = .fz (.bl b)) e = notB neg r s K e := by
  cases r with
  | fz d =>
    cases d with
    | bl b => exact propext ⟨fun h => h.1, fun h => ⟨h, _, rfl⟩⟩
    | _ => rfl
  | _ => rfl
theorem qOeq_bl {c : Str} {neg : Bool} {x y : D} {s : S} {K : R → S → Prop} {e : XC} (w : qOeq Γ c neg x y s K e) : qOeq Γ c neg x y s (fun r s' => K r s' ∧ ∃ b, r = .fz (.bl b)) e := by
  cases x with
  | obj c1 fs =>
    cases y with
    | obj c2 gs =>
      obtain ⟨w1, w2⟩ := w
      refine ⟨w1, ?_⟩
      cases hm : Γ.mth c "__eq__" with
      | none => rw [hm] at w2; exact w2.elim
      | some fe =>
        rw [hm] at w2
        cases fe with
        | pl con sc dfl =>
          have e1 : (bnd (callC con false [some (.obj c fs), some (.obj c gs)]) (notB neg)) s (fun r s' => K r s' ∧ ∃ b, r = .fz (.bl b)) noX = (bnd (callC con false [some (.obj c fs), some (.obj c gs)]) (notB neg)) s K noX := by
            unfold bnd
            congr 1
            funext r s'
            exact notB_bl
          exact e1.mpr w2
        | io _ _ => exact w2.elim
        | fp _ => exact w2.elim
    | _ => exact w.elim
  | _ => cases y <;> exact w.elim
theorem lt_oeq (hT : F.T.tb = F.G.tb) {c : Str} {neg : Bool} {con : Con} {dfl : List D} {sc : Bool} {np : Nat} {fa fb : M R} {σ : L2.St} {H : Hp} {Q : Bool → Hp → Prop} (hΓ : Γ.mth c "__eq__" = some (.pl con sc dfl)) (hn : ∀ as c K e, con as c K e → as.length = np)
    (h : LT F E (dfT .non (bnd (toD fa) fun x => bnd (toD fb) fun y => qOeq Γ c neg x y)) σ H Q) : tOp (rOeq (F.G.ga c) (liftSp F.G np con) E0 neg) (LR F E fa) (LR F E fb) σ H (fun v H' => ∃ b, v = .bl b ∧ Q b H') := by
  obtain ⟨Z, ow, s, K, R, hf, hq⟩ := h
  refine lr_oeq hT hΓ hn ⟨Z, ow, s, fun r s' => qTru r.d s' K E ∧ ∃ b, r = .fz (.bl b), R, ?_, fun r s' v H' ow' k rr e => ?_⟩
  · have e1 : (bnd (toD fa) fun x => bnd (toD fb) fun y => qOeq Γ c neg x y) s (fun r s' => qTru r.d s' K E ∧ ∃ b, r = .fz (.bl b)) E = (bnd (toD fa) fun x => bnd (toD fb) fun y => qOeq Γ c neg x y) s (fun r s' => qTru r.d s' K E) E := by
      show fa s (fun r1 s1 => fb s1 (fun r2 s2 => qOeq Γ c neg r1.d r2.d s2 (fun r s' => qTru r.d s' K E ∧ ∃ b, r = .fz (.bl b)) E) E) E = fa s (fun r1 s1 => fb s1 (fun r2 s2 => qOeq Γ c neg r1.d r2.d s2 (fun r s' => qTru r.d s' K E) E) E) E
      congr 1
      funext r1 s1
      congr 1
      funext r2 s2
      exact propext ⟨fun w => by
        cases hx : r1.d with
        | obj c1 fs =>
          cases hy : r2.d with
          | obj c2 gs =>
            rw [hx, hy] at w
            obtain ⟨w1, w2⟩ := w
            refine ⟨w1, ?_⟩
            rw [hΓ] at w2 ⊢
            have e1 : (bnd (callC con false [some (.obj c fs), some (.obj c gs)]) (notB neg)) s2 (fun r s' => qTru r.d s' K E ∧ ∃ b, r = .fz (.bl b)) noX = (bnd (callC con false [some (.obj c fs), some (.obj c gs)]) (notB neg)) s2 (fun r s' => qTru r.d s' K E) noX := by
              unfold bnd
              congr 1
              funext r s'
              exact notB_bl
            exact e1.mp w2
          | _ => rw [hx, hy] at w; exact w.elim
        | _ => rw [hx] at w; cases hy : r2.d <;> (rw [hy] at w; exact w.elim), qOeq_bl⟩
    exact e1.mpr hf
  · obtain ⟨k, b, rfl⟩ := k
    obtain ⟨R', z⟩ := rr
    cases z
    exact ⟨b, rfl, hq b s' H' ow' k.2 R' e⟩
theorem tx_one_ (g : Gd X F E) {c : Str} {k : Nat} {con : Con} {dfl : List D} {sc : Bool} (e : MtE X.prog X.w X.K X.mg X.base F.G k c "__eq__" con dfl 0) (hΓ : Γ.mth c "__eq__" = some (.pl con sc dfl)) (hob : PySem.W.findIn X.K (.ref (F.G.ga c)) "__ne__" = some (some (.builtin "object.__ne__")) ∧ PySem.W.mroIn X.K (F.G.ga c) (.type "object") = some true) (hr : RoomG (k + 1) X.A)
    (ha : SX X F E Γ a ia) (hb : SX X F E Γ b ib) (hm : behindInMarks .NotEq b = false := by first | exact nomark _ | rfl) : TX X F E Γ (.Compare a [.NotEq] [b] pos) (.oeq c true ia ib) := by
  obtain ⟨f, fd, ps, dvs, ds, ok, hcl, hmt, hbi, hd, hlen, hdf⟩ := e.ok
  have h0 : dvs = [] := args_nil (show ArgsOk F.G F.T (fun _ => False) (fun _ => none) dvs [] by
    have z := hdf F.T (fun _ => False) (fun _ => none)
    rw [show dflTail dfl 0 = [] by simp [dflTail]] at z
    exact z)
  subst h0
  cases hd
  exact PTimp (pt_cmpR (op_one ok ⟨hmt.at_, hmt.fn, hob.1, hob.2⟩ hbi passE0 hr g.u1) ha hb hm) fun _ _ _ h => lt_oeq g.tb hΓ hlen h
end
end PP
set_option Elab.async false
set_option linter.all false
set_option maxRecDepth 100000
set_option maxHeartbeats 4000000
namespace PP
open PySem PySem.W PySem.Calls PyProof.Rows
abbrev erBody (nm : Str) (p1 p2 p3 p4 p5 p6 p7 p8 p9 p10 : Pos) : List Stmt :=
  [.Expr (.Call (.Attribute (.Call (.Name "super" p1) [] [] p2) "__init__" p3) [.Name nm p4] [] p5) p6, .Assign [.Attribute (.Name "self" p7) nm p8] (.Name nm p9) p10]
structure ErrS (sc : Scope) (nm : Str) : Prop where
  kind : sc.kind = .function
  co : sc.isCoroutine = false
  gen : sc.isGenerator = false
  cell : ∀ x ∈ sc.names, x.2 ≠ .cell
  su : sc.names.lookup ("super" : Str) = some .globalImplicit
  cl : sc.names.lookup ("__class__" : Str) = some .free
  self : sc.names.lookup ("self" : Str) = some .local
  nm : sc.names.lookup nm = some .local
def BndNm (nm : Str) : Prop := ∀ (name qual : Str) (an1 an2 : Option PySem.Expr) (q1 q2 : Pos) (body : List Stmt) (sc : Scope) (kV doc pm : Value) (an : Option Addr) (cd ct : Value) (cc : Addr) (x y : Value),
  bindArgs (ksFn name qual ⟨[], [⟨"self", an1, q1⟩, ⟨nm, an2, q2⟩], none, [], [], none, []⟩ body sc .none kV doc pm an cd ct cc) ⟨[x, y], []⟩ = pure [(("self" : Str), x), (nm, y)]
theorem bnd_index : BndNm "index" := by intro _ _ _ _ _ _ _ _ _ _ _ _ _ _ _ _ _; rfl
/-- what the top says of it -/
structure ErrI (prog : Program) (K : Frag) (C f : Addr) (nm : Str) : Prop where
  fn : ∃ (oc : Value) (od : Option Addr) (osl : Array (Option Value)) (name qual : Str) (an1 an2 : Option PySem.Expr) (q1 q2 : Pos) (sc : Scope) (kV doc pm : Value) (an : Option Addr) (ct : Value) (cda cc : Addr) (p1 p2 p3 p4 p5 p6 p7 p8 p9 p10 : Pos),
    K.lookup f = some ⟨oc, od, .func (ksFn name qual ⟨[], [⟨"self", an1, q1⟩, ⟨nm, an2, q2⟩], none, [], [], none, []⟩ (erBody nm p1 p2 p3 p4 p5 p6 p7 p8 p9 p10) sc .none kV doc pm an (.ref cda) ct cc), osl⟩ ∧
      codeIn K (.ref cda) qual = true ∧ (p3.endLine == p5.line) = true ∧ ErrS sc nm ∧ (∃ cl cld csl, K.lookup cc = some ⟨cl, cld, .cell (some (.ref C)), csl⟩) ∧ ∃ ccl cdd vs ccs file tf, K.lookup cda = some ⟨ccl, cdd, .fields vs, ccs⟩ ∧ vs[2]? = some (.str file tf) ∧ ((prog.main.file : Str) == file) = true
  top : (prog.main.scope.names.lookup ("super" : Str)).isSome = false
  ne : nm ≠ "self"
  bnd : BndNm nm
  dbg : (nm == ("__debug__" : Str)) = false
  oex : L2.OexC K C
  no : findIn K (.ref C) nm = some none
  mro : mroIn K C (.ref C) = some true
  sub : subIn K (.ref C) (.type "ValueError") = some true
  opq : nsIn K cStatics "thirdparty.any" = some none
  sup : ks_superIn K C C "__init__" = some (some (.builtin "ValueError.__init__"))
theorem mc_super (env : PySem.Env) (nm : Str) (p1 p2 p3 p4 p5 : Pos) (h : (p3.endLine == p5.line) = true) : ∃ pl, eval (.Call (.Attribute (.Call (.Name "super" p1) [] [] p2) "__init__" p3) [.Name nm p4] [] p5) env = (do
      let ov ← attributeBase (.Call (.Name "super" p1) [] [] p2) "__init__" env (eval (.Call (.Name "super" p1) [] [] p2) env)
      standAt p3.atName
      let (f, first) ← holding [ov] (getMethod ov "__init__" pl)
      callWith p5 f first (backTo p5 (starEach [.Name nm p4] env)) []) := by
  refine ⟨(do return (← importBound (.Call (.Name "super" p1) [] [] p2) env).getD true), ?_⟩
  have e : methodCallPos true (.Call (.Name "super" p1) [] [] p2) env p3 p5 = pure p5 := by
    unfold methodCallPos
    rw [h]
    rfl
  show (do
      let ov ← attributeBase (.Call (.Name "super" p1) [] [] p2) "__init__" env (eval (.Call (.Name "super" p1) [] [] p2) env)
      standAt p3.atName
      let (f, first) ← holding [ov] (getMethod ov "__init__" (do return (← importBound (.Call (.Name "super" p1) [] [] p2) env).getD true))
      let cp ← methodCallPos true (.Call (.Name "super" p1) [] [] p2) env p3 p5
      callWith cp f first (backTo p5 (starEach [.Name nm p4] env)) []) = _
  rw [e]
  simp only [pure_bind]
section
variable {prog : Program} {w : World} {A : Around} {s : Shared} {K : Frag} {mg mb : Str → Option Value} {C f a t0 : Addr} {nm : Str} {u : Value}
theorem ldn {M : Model} {A : Around} {E : Value → Shared → Prop} {env : PySem.Env} {m : Str → Option Value} {x : Str} {pos : Pos} {v : Value} {s : Shared} {Q : Value → Shared → Prop} (hk : env.scope.kind = .function) (hl : env.kindOf x = some .local) (hn : s.heap.Ns env.locals m) (hv : m x = some v) (hd : (x == ("__debug__" : Str)) = false) (h : Q v s) :
    wpAny M A (eval (.Name x pos) env) Q E s := wpAny_Name (wpAny_loadName_local hk hl hn hv h) hd
theorem err_code {R : Result → Shared → Prop} (I : ErrI prog K C f nm) (X : K.In s.heap) (hlim : s.heap.NoLimit) (hroom : A.depth < recursionLimit) (hg : s.heap.Ns mainGlobals mg) (hgs : mg "super" = none) (hb : s.heap.Ns builtinsNs mb) (hbb : ∀ x : Str, x ≠ "__name__" → mb x = bootBuiltins x)
    (he : s.heap.get? a = some (HandSPX.excO C t0)) (hKa : ∀ o, K.lookup a ≠ some o)
    (h : ∀ h' tk' dx t1, (∀ b o, b ≠ a → s.heap.get? b = some o → h'.get? b = some o) → s.heap.get? dx = none → dx ≠ a → h'.get? a = some { cls := .ref C, dict := some dx, data := .fields #[.ref t1, .none, .none, .none, .bool false, .none] } →
      h'.Ns1 dx (fun y => if y = nm then some u else none) → R (.ok (.ret .none)) { s with heap := h', toks := tk' }) :
    codeAny (model prog w) A (.call (.ref f) ⟨[.ref a, u], []⟩) R s := by
  obtain ⟨oc, od, osl, name, qual, an1, an2, q1, q2, sc, kV, doc, pm, an, ct, cda, cc, p1, p2, p3, p4, p5, p6, p7, p8, p9, p10, lk, hcd, hpos, S, ⟨cl, cld, csl, hcell⟩, ccl, cdd, vs, ccs, file, tf, hcode, hvs, hfile⟩ := I.fn
  obtain ⟨kd, nms, ig, ic, mo⟩ := sc
  obtain rfl : kd = .function := S.kind
  obtain ⟨nmC, qC, N, bs, bm, sn, sub, ab, col, dd, k0, k1, k2, k3, k5, hC, hbm⟩ := I.oex.cls
  refine ks_codeAny_call_defAt (fd := ksFn name qual ⟨[], [⟨"self", an1, q1⟩, ⟨nm, an2, q2⟩], none, [], [], none, []⟩ (erBody nm p1 p2 p3 p4 p5 p6 p7 p8 p9 p10) ⟨.function, nms, ig, ic, mo⟩ .none kV doc pm an (.ref cda) ct cc) (body := erBody nm p1 p2 p3 p4 p5 p6 p7 p8 p9 p10) (binds := [("self", .ref a), (nm, u)])
    hroom (X _ _ lk) rfl hlim (codeRec_of X hcd) rfl (BindsTo.of_eq (I.bnd _ _ _ _ _ _ _ _ _ _ _ _ _ _ _ _ _)) S.cell ?_ (fun h₀ hns kp => ?_) S.co S.gen S.kind
  · intro x hx
    rcases List.mem_cons.mp hx with rfl | hx
    · exact S.self
    · rcases List.mem_cons.mp hx with rfl | hx
      · exact S.nm
      · cases hx
  have vself : (fun x : Str => ([(("self" : Str), Value.ref a), (nm, u)] : List (Str × Value)).reverse.lookup x) "self" = some (.ref a) := by
    have e : (("self" : Str) == nm) = false := by
      have := I.ne
      simp only [beq_eq_false_iff_ne, ne_eq]
      exact fun q => this q.symm
    simp [List.lookup, e]
  have vnm : (fun x : Str => ([(("self" : Str), Value.ref a), (nm, u)] : List (Str × Value)).reverse.lookup x) nm = some u := by
    simp [List.lookup]
  have X0 : K.In h₀ := X.keeps kp
  have he0 := kp _ _ he
  have hD1 := X0 _ _ hC
  have hD2 : (excClassObj nmC qC C N bs bm true sn sub ab col dd k0 k1 k2 k3 k5 "ValueError.__new__").data = .cls { name := nmC, bases := bs, mro := .ref C :: bm, ns := N, qualname := qC, hasDict := true, slotNames := sn, subclasses := sub, abstract := ab, collection := col, hasDel := false } := rfl
  have hcl : clsIn K C = some { name := nmC, bases := bs, mro := .ref C :: bm, ns := N, qualname := qC, hasDict := true, slotNames := sn, subclasses := sub, abstract := ab, collection := col, hasDel := false } := by unfold clsIn; rw [hC] <;> rfl
  have nLa : s.heap.objs.size ≠ a := Nat.ne_of_gt (Heap.lt_size he)
  obtain ⟨hp, g, d, tk, os⟩ := s
  obtain ⟨pl, hpl⟩ := mc_super (callEnv (ksFn name qual ⟨[], [⟨"self", an1, q1⟩, ⟨nm, an2, q2⟩], none, [], [], none, []⟩ (erBody nm p1 p2 p3 p4 p5 p6 p7 p8 p9 p10) ⟨.function, nms, ig, ic, mo⟩ .none kV doc pm an (.ref cda) ct cc) hp.objs.size f) nm p1 p2 p3 p4 p5 hpos
  refine ks_wpAt_execs_cons (ks_wpAt_Expr_any (ks_wpAt_MethodCall (pl := pl) ?_ hpl))
  refine ks_wpAt_super_base (ar := ⟨"self", an1, q1⟩) S.su S.cl (by decide) rfl (X0 _ _ lk) rfl rfl rfl (X0 _ _ hcode) rfl hvs hfile I.top ?_
  refine ks_loadName_global S.kind S.su (loadGlobal_builtin (hg.keeps kp) hgs (hb.keeps kp) ((hbb _ (by decide +kernel)).trans (by decide +kernel)) ⟨rfl, ?_⟩)
  refine wpAny_loadName_free S.kind S.cl rfl ⟨_, X0 _ _ hcell, rfl⟩ ?_
  refine wpAny_loadName_local S.kind S.self hns vself ?_
  refine ks_wpAny_isType_cls hD1 hD2 ⟨rfl, ?_⟩
  refine ks_wpAny_call_super hD1 hD2 he0 rfl (fun c e => by cases e) (looks_mroIn X0 I.mro) fun h1 hso kp1 => ?_
  have X1 : K.In h1 := X0.keeps kp1
  have he1 := kp1 _ _ he0
  have hI1 : Looks (model prog w) h1 (isInstance (.ref a) (.type "ValueError")) true := (InstAt.type (od := none) ⟨he1, rfl, rfl, trivial⟩).andThen (looks_subIn X1 I.sub)
  have haC : a ≠ C := fun e => by
    have := X0 _ _ hC
    rw [← e, he0] at this
    cases this
  have hsup := I.sup
  unfold ks_superIn at hsup
  rw [hcl] at hsup
  refine kxs_getMethod kxs_ValueError hso (looks_opaque X1 I.opq) (l₀ := .ref C :: bm) (fun A Q E s k q => wpAny_bind ((looks_clsIn X1 hcl) A _ E s k (wpAny_pure q))) rfl X1 hsup hI1 haC (by decide) ?_
  have kp2 : ∀ b o, h1.get? b = some o → (h1.push (kxs_mw "ValueError.__init__" a)).get? b = some o := fun b o e => Heap.get?_push_of_some _ e
  have he2 := kp2 _ _ he1
  have hmw : (h1.push (kxs_mw "ValueError.__init__" a)).get? h1.objs.size = some (kxs_mw "ValueError.__init__" a) := Heap.get?_push_at rfl rfl
  refine kxs_callWith (i := "ValueError.__init__") (x := a) rfl (evalArgs_plain ?_)
  show wpAny _ _ (spliced ((false, eval (.Name nm p4) _) :: backTo p5 (starEach [] _))) _ _ _
  refine Calls.spliced_cons (ldn S.kind S.nm ((hns.keeps kp1).keeps kp2) vnm I.dbg ?_)
  refine Calls.spliced_nil ⟨hmw, ?_⟩
  show wpAny _ _ (call (.ref h1.objs.size) [u]) _ _ _
  refine wpAny_call (codeAny_of_tree ?_)
  show wpAny _ _ (callAny (.ref h1.objs.size) ⟨[u], []⟩) _ _ _
  simp only [callAny]
  refine wpAny_bind (wpAny_load hmw ?_)
  simp only [kxs_mw, show (Value.type "method-wrapper" == Value.type "method" || Value.type "method-wrapper" == Value.type "builtin_function_or_method" || Value.type "method-wrapper" == Value.type "method-wrapper") = true by decide, if_true]
  refine KFB.if_so (by decide) ?_
  refine wpAny_bind (check_bound_init PySem.F.excBase_ValueError.toExcCallFacts (kp2 _ _ (kp1 _ _ hD1)) he2 rfl ?_)
  refine wpAny_bind (wpAny_pure (wpAny_pure ?_))
  refine ⟨plainId_quiet PySem.F.excBase_ValueError.init.plain _, codeAny_builtin PySem.F.excBase_ValueError.initEntry ?_⟩
  refine exc_init_tree (cls := .ref C) (t0 := t0) (dv := none) (c2 := .none) (c3 := .none) (b4 := .bool false) he2 (by show 1 ≤ sizeLine; decide) fun h3 k3 he3 _ => ?_
  have kk : ∀ b o, b ≠ a → hp.get? b = some o → h3.get? b = some o := fun b o n e => k3 b o n (kp2 _ _ (kp1 _ _ (kp _ _ e)))
  have X3 : K.In h3 := fun b o e => by
    exact k3 b o (fun q => hKa o (by rw [← q]; exact e)) (kp2 _ _ (kp1 _ _ (X0 _ _ e)))
  have hns3 : h3.Ns hp.objs.size (fun x => ([(("self" : Str), Value.ref a), (nm, u)] : List (Str × Value)).reverse.lookup x) := ((hns.keeps kp1).keeps kp2).at fun o q => k3 _ _ nLa q
  refine ks_wpAt_execs_cons (ks_wpAt_Assign_Attr (wpAt_of_wpAny (ldn rfl S.nm hns3 vnm I.dbg (ldn rfl S.self hns3 vself (by decide) ?_))))
  refine set_plain X3 (ox := { cls := .ref C, dict := none, data := .fields #[.ref _, .none, .none, .none, .bool false, .none] }) (od := none) ⟨he3, rfl, rfl, trivial⟩ I.oex.sa ?_
  refine HandSPX.exc_osa X3 he3 hcl (show HandSPX.refsVE (.ref C :: bm) = true from hbm) rfl I.no (fun h4 tk4 dx k4 dn dne hx hn => ?_)
  refine wpAt_of_wpAny (wpAny_pure ?_)
  refine h h4 tk4 dx _ (fun b o n e => k4 b o n (kk b o n e)) ?_ dne hx hn
  cases e : hp.get? dx with
  | none => rfl
  | some o => exact absurd (Heap.lt_size (kk dx o dne e)) (Nat.not_lt.mpr dn)
end
end PP
namespace L2
open PySem PySem.Spec PyProof.Rows
section
variable {X : Cx} {e : Expr} {te : TE} {p pos : Pos} {x nm : Str} {C fI : Addr}
/-- C(e): an error with its field -/
theorem pmk_err (I : PP.ErrI X.prog X.K C fI nm) (iC : PySem.W.findIn X.K (.ref C) "__init__" = some (some (.ref fI))) (tI : PySem.W.typeIn X.K (.ref fI) = some (.type "function")) (hsu : X.mg "super" = none) (hdp : X.A.depth + 1 < recursionLimit) (hg : Gl X x) (hm : X.mg x = some (.ref C)) (he : PE X e te)
    (hs : starEach [e] X.env = (false, eval e X.env) :: starEach [] X.env := by rfl) (hdb : (x == ("__debug__" : Str)) = false := by decide) :
    PMk X (.Call (.Name x p) [e] [] pos) (fun σ H Q => te σ H fun v H1 => ∀ d, H1 d = none → Q (.ref C) (some d) (upd H1 d (.xd [(nm, v)]))) := by
  intro pins s σ H Q I0 h
  obtain ⟨nmC, q, N, bs, bm, sn, sub, ab, col, dd, k0, k1, k2, k3, k5, hC, hbm⟩ := I.oex.cls
  refine wpAny_Call_Name_kw (ld_glob I0 hg hm ?_ hdb)
  refine PySem.W.callWith_K (h₀ := X.base) I0.ok.mod.kin I.oex.kC ?_ hs (by rfl)
  rw [hs]
  show wpAny _ _ (spliced ((false, eval e X.env) :: backTo pos (starEach [] X.env))) _ _ s
  refine Calls.spliced_cons (thn (he.run pins s σ H _ I0 h) fun u s1 ⟨v, H1, I1, r1, q1⟩ => ?_)
  refine Calls.spliced_nil ⟨I1.kIn, ?_⟩
  show wpAny _ _ (call (.ref C) [u]) _ _ _
  obtain ⟨hp, g, dr, tk, os⟩ := s1
  have kk : ∀ b o, hp.get? b = some o → ((hp.push (PySem.W.kdv_tup [u])).push (PySem.HandSPX.excO C hp.objs.size)).get? b = some o := fun b o e => Heap.get?_push_of_some _ (Heap.get?_push_of_some _ e)
  have hget : ((hp.push (PySem.W.kdv_tup [u])).push (PySem.HandSPX.excO C hp.objs.size)).get? (hp.objs.size + 1) = some (PySem.HandSPX.excO C hp.objs.size) := by heap_get
  have ha : hp.objs.size ≤ hp.objs.size + 1 := Nat.le_succ _
  have hn : H1 (hp.objs.size + 1) = none := I1.hok.fresh ha
  have nha : ∀ {b : Addr} {o : Obj}, hp.get? b = some o → b ≠ hp.objs.size + 1 := fun {b o} z => Nat.ne_of_lt (Nat.lt_of_lt_of_le (Heap.lt_size z) ha)
  obtain ⟨mb, hbl, hbb⟩ := I1.ok.mod.blt
  refine wpAny_call (PySem.HandSPX.call_own F.excBase_ValueError (fun Y => PySem.HandSPX.refsVE_contains Y bm hbm) (I1.kIn _ _ hC) (PySem.W.looks_findIn I1.kIn iC) (fun self => PySem.W.bind_fn I1.kIn self tI) (by show 1 ≤ sizeLine; decide) ?_)
  refine PP.err_code (mb := mb) I (PySem.W.Frag.In.keeps I1.kIn kk) (I1.nolimit.keeps kk) (by rw [make_depth]; exact hdp) ((I1.mod.glob.keeps I1.bk).keeps kk) hsu ((hbl.keeps I1.bk).keeps kk) hbb hget (fun o e => nha (I1.kIn _ _ e) rfl) (fun h2 tk2 dx t1 k hdx dne hx hn2 => ?_)
  have hdx0 : hp.get? dx = none := by
    cases q : hp.get? dx with
    | none => rfl
    | some o => rw [kk _ _ q] at hdx; cases hdx
  have hd1 : H1 dx = none := I1.hok.gone hdx0
  obtain ⟨G, g1', g2'⟩ := restrict h2 fun b => decide (b ≠ hp.objs.size + 1)
  have gk : ∀ b, b ≠ hp.objs.size + 1 → G.get? b = h2.get? b := fun b hb => g1' b (decide_eq_true hb)
  have ge : G.get? (hp.objs.size + 1) = none := g2' _ (by simp)
  have kG : ∀ b o, hp.get? b = some o → G.get? b = some o := fun b o z => by rw [gk b (nha z)]; exact k b o (nha z) (kk b o z)
  have nd : ∀ {b : Addr} {o : Obj}, hp.get? b = some o → b ≠ dx := fun {b o} z e => by rw [e, hdx0] at z; cases z
  have U : Un (frs X.stack) [] H1 (upd H1 dx (.xd [(nm, v)])) hp G := {
    keep := fun b o z _ _ _ => kG b o z
    slot := fun b o z _ _ _ => ⟨o.slots, kG b o z⟩
    free := fun b o z n _ => by rw [upd_ne (nd z)]; exact n
    there := fun b o z _ => ⟨o, kG b o z⟩
    tups := fun b xs z => by rw [upd_ne (ne_of_none z hd1)]; exact z
    frzs := fun b o v z => by rw [upd_ne (ne_of_none z hd1)]; exact z
    tbls := fun b ps z => ⟨#[], by rw [upd_ne (ne_of_none z hd1), z]; simp⟩ }
  have hok3 : HOk X.prog X.w (upd H1 dx (.xd [(nm, v)])) G := fun b o z => by
    by_cases hbd : b = dx
    · subst hbd
      rw [upd_same] at z
      cases z
      exact ⟨_, hn2.at fun o y => (gk b dne).trans y, relO_put (fs := []) r1 fun g => True.intro⟩
    · rw [upd_ne hbd] at z
      exact (I1.hok b o z).stay (fun c v _ y => kG c v y) (fun c hc => by rw [upd_ne (ne_of_none hc hd1)]; exact hc) (fun c xs hc => by rw [upd_ne (ne_of_none hc hd1)]; exact hc)
  have J : Inv X pins σ (upd H1 dx (.xd [(nm, v)])) ⟨G, g, dr, tk2, os⟩ := I1.call' (ch := []) rfl U hok3 I1.bare (fun b z => absurd z (by simp))
  exact ⟨rfl, hp.objs.size + 1, _, _, ⟨G, g, dr, tk2, os⟩, _, .ref C, some dx, rfl, J, fun b o z => (by
    by_cases hb : b = hp.objs.size + 1
    · rw [hb, ge] at z; cases z
    · exact (gk b hb).symm.trans z), ge, hx, ⟨rfl, rfl⟩, rfl, rfl, by rw [upd_ne (Ne.symm dne)]; exact hn, rfl, I1.bare, raises_own I.oex.exC I.oex.tyC, q1 dx hd1⟩
end
end L2
set_option Elab.async false
set_option linter.all false
set_option maxRecDepth 100000
set_option maxHeartbeats 4000000
namespace L2
open PySem PySem.Spec PyProof.Rows
end L2
namespace PP
open PySem L2
/-- an error class with one field -/
structure ErrE (P : Program) (K : PySem.W.Frag) (mg : Str → Option Value) (G : Gc) (c f : Str) : Prop where
  i : ∃ fI, ErrI P K (G.ga c) fI f ∧ PySem.W.findIn K (.ref (G.ga c)) "__init__" = some (some (.ref fI)) ∧ PySem.W.typeIn K (.ref fI) = some (.type "function")
  su : mg "super" = none
  m : mg c = some (.ref (G.ga c))
section
variable {X : Cx} {F : Fm} {E : XC} {Γ : Env} {a : Expr} {ia : Ex} {pos cpos p : Pos} {c f : Str}
/-- raise C(e) -/
theorem ss_raise (g : Gd X F E) {k : Nat} (er : ErrE X.prog X.K X.mg F.G c f) (hr : RoomG k X.A) (ha : SX X F E Γ a ia) (hg : Gl X c := by rfl) (hs : starEach [a] X.env = (false, eval a X.env) :: starEach [] X.env := by rfl) (hdb : (c == ("__debug__" : Str)) = false := by decide) :
    SSX X F E Γ (.Raise (some (.Call (.Name c p) [a] [] cpos)) none pos) (.raise c [f] [ia]) := by
  obtain ⟨fI, hI, h1, h2⟩ := er.i
  refine PSimp (ps_raise g.calm g.tk (pmk_err hI h1 h2 er.su (by have := hr.r.dp; omega) hg er.m ha hs hdb)) fun D σ H h => ?_
  obtain ⟨ow, s, n, R, w, he, ct⟩ := h
  subst he
  have w' : (evP Γ ia).r s (fun r s1 => n.ex (c, [(f, r.d)]) s1) n.ex := w
  refine ⟨F.Z0, ow, s, _, R, w', fun r s1 v1 H1 ow1 w1 rr e1 => fun d hd => ?_⟩
  obtain ⟨R1, z1⟩ := rr.fz' R
  obtain ⟨nm, n0, nz⟩ := R1.new0 hd
  refine ⟨F.Z0, ow1, s1, (c, [(f, r.d)]), R1.alloc0 hd, ⟨rfl, .inr ⟨d, [(f, v1)], rfl, nz, upd_same, rfl, ?_⟩⟩, w1⟩
  exact FzL.one (z1.keep (Keep.new (Z := F.Z0) hd))
end
end PP
set_option Elab.async false
set_option linter.all false
set_option maxRecDepth 100000
set_option maxHeartbeats 2000000
namespace LamX
open PySem PySem.Spec PyProof.Rows L2
/-- all but one table stays -/
def ExtP (P : Addr) (H H1 : Hp) : Prop := ∀ b o, H b = some o → b ≠ P → H1 b = some o
def tLamg (P : Addr) (T : List (Addr × Str)) (TT : (XK → Hp → VK → Prop) → Hp → VK → Prop) (t : XK → TE) : TE := fun σ H Q => Tabs T H ∧ ∀ H1, ExtP P H H1 → Tabs T H1 → TT (fun E H' Q' => t E σ H' Q') H1 Q
section
variable {X : Cx} {pinz : List (Addr × Obj)} {σ : L2.St} {H HZ : Hp} {s sy : Shared}
theorem lam_makeg {T : List (Addr × Str)} {c P : Addr} {params : Arguments} {body : Expr} {scope : Scope} {pos : Pos} {E : Value → Shared → Prop} {Q : Value → Shared → Prop} (I : Inv X pinz σ H s) (TB : TabB X.base X.mg c P) (hcode : X.env.code = .ref c)
    (hm : (P, X.env.qual ++ "<lambda>") ∈ T) (hu : ∀ p ∈ T, p.1 = P → p.2 = X.env.qual ++ "<lambda>") (hTb : Tabs T H) (hdef : defaultsOf params X.env = ([], [])) (hfree : ∀ y ∈ scope.names, y.2 = .free → ∃ c, X.env.cells.lookup y.1 = some c)
    (h : ∀ (f c' : Addr) (pm ctv : Value) (H1 : Hp) (sz : Shared), Inv X pinz σ H1 sz → ExtP P H H1 → Tabs T H1 →
      sz.heap.get? f = some (PySem.W.kla_obj "<lambda>" (X.env.qual ++ "<lambda>") params body scope (cloFrom X.env.cells scope.names []) pm c' ctv) → H1 f = none → f ∉ frs X.stack → H1 c' = some (CodeO c' (X.env.qual ++ "<lambda>")) → Q (.ref f) sz) :
    wpAny (model X.prog X.w) X.A (eval (.Lambda params body scope pos) X.env) Q E s := by
  obtain ⟨ps, hP, hty, ha⟩ := hTb _ hm
  refine PySem.W.kla_eval hdef ?_
  have bP : s.heap.BuiltinsAt X.mg P := TB.bm.keeps I.bk
  have hP' : s.heap.get? P = some { cls := .none, data := .fields ps } := I.hok P _ hP
  have nofr : ∀ f, s.heap.objs.size ≤ f → f ∉ frs X.stack := fun f hf z => by
    rcases List.mem_cons.mp (I.stkSub _ z) with e | e
    · have h1 := I.lt
      rw [← e] at h1
      exact Nat.lt_irrefl _ (Nat.lt_of_lt_of_le h1 hf)
    · exact I.nofs hf e
  cases hc : codeAmong pos ps.toList with
  | none =>
    refine PySem.W.kla_makeFunction (mg := X.mg) (c := c) (P := P) (ps := ps) (closure_ok hfree) I.ok.glob (I.mod.glob.keeps I.bk) hcode (TB.code.keeps I.bk) hP' hty hc TB.gP bP fun c' ctv h' tk hxx hge hlt hrec htb => ?_
    obtain ⟨c2, oc, vs, t, e2, hoc, hd, hv⟩ := hrec
    cases e2
    have hsz : s.heap.objs.size ≤ h'.objs.size := Nat.le_trans hge (Nat.le_of_lt hlt)
    have nC : H c' = none := I.hok.fresh hge
    have J1 := inv_table (t' := tk) (more := #[rawInt pos.line, rawInt pos.col, .ref c']) (h' := h'.push (PySem.W.kla_obj "<lambda>" (X.env.qual ++ "<lambda>") params body scope (cloFrom X.env.cells scope.names []) ((X.mg "__name__").getD .none) c' ctv)) I hP
      (fun b o hb e => Heap.get?_push_of_some _ (hxx b o hb e)) (Heap.get?_push_of_some _ htb) hge ⟨oc, vs, t, Heap.get?_push_of_some _ hoc, hd, hv⟩
    have hE : ExtP P H (upd (upd H P (.tbl (ps ++ #[rawInt pos.line, rawInt pos.col, .ref c']))) c' (CodeO c' (X.env.qual ++ "<lambda>"))) := fun b o e n => by
      rw [upd_ne (ne_of_none e nC), upd_ne n]
      exact e
    have eL : (ps ++ #[rawInt pos.line, rawInt pos.col, .ref c']).toList = ps.toList ++ [rawInt pos.line, rawInt pos.col, .ref c'] := by simp
    refine h h'.objs.size c' ((X.mg "__name__").getD .none) ctv _ _ J1 hE (fun p hp => ?_) (Heap.get?_push_size _ rfl) ?_ (nofr _ hsz) upd_same
    · by_cases hb : p.1 = P
      · rw [hu p hp hb, hb]
        refine ⟨_, by rw [upd_ne (ne_of_none hP nC), upd_same], by rw [eL]; exact PySem.TriplesOk_snoc _ _ _ _ hty, fun p' cv hcv => ?_⟩
        rw [eL] at hcv
        rcases among_app _ hty hcv with z | z
        · obtain ⟨c0, e1, e2⟩ := ha p' cv z
          exact ⟨c0, e1, hE _ _ e2 (fun z => codeO_ne ps (Option.some.inj (e2.symm.trans (by rw [z]; exact hP))))⟩
        · exact ⟨c', z, upd_same⟩
      · obtain ⟨ps', a1, a2, a3⟩ := hTb p hp
        refine ⟨ps', by rw [upd_ne (ne_of_none a1 nC), upd_ne hb]; exact a1, a2, fun p' cv hcv => ?_⟩
        obtain ⟨c0, e1, e2⟩ := a3 p' cv hcv
        exact ⟨c0, e1, hE _ _ e2 (fun z => codeO_ne ps (Option.some.inj (e2.symm.trans (by rw [z]; exact hP))))⟩
    · have n1 : h'.objs.size ≠ c' := Nat.ne_of_gt hlt
      have n2 : h'.objs.size ≠ P := Nat.ne_of_gt (Nat.lt_of_lt_of_le (Heap.lt_size hP') hsz)
      rw [upd_ne n1, upd_ne n2]
      exact I.hok.fresh hsz
  | some cv =>
    obtain ⟨c', e, hco⟩ := ha pos cv hc
    subst e
    refine PySem.W.kla_makeFunctionHit (mg := X.mg) (c := c) (P := P) (ps := ps) (closure_ok hfree) I.ok.glob (I.mod.glob.keeps I.bk) hcode (TB.code.keeps I.bk) hP' hty hc bP fun ctv h' tk hxx hsz => ?_
    have J1 : Inv X pinz σ H { s with heap := h'.push (PySem.W.kla_obj "<lambda>" (X.env.qual ++ "<lambda>") params body scope (cloFrom X.env.cells scope.names []) ((X.mg "__name__").getD .none) c' ctv), toks := tk } := I.kept fun b o e => Heap.get?_push_of_some _ (hxx b o e)
    exact h h'.objs.size c' ((X.mg "__name__").getD .none) ctv H _ J1 (fun _ _ e _ => e) hTb (Heap.get?_push_size _ rfl) (I.hok.fresh hsz) (nofr _ hsz) hco
theorem pe_actg {CXg : CXT} {Eg : XK} {Ng : List Str} {qg : Str} {sg : Scope} {g f c' : Addr} {cdg pm ctv : Value} {params : Arguments} {body : Expr} {scope : Scope} {k i : Nat} {a : Str} {pn : List (Addr × Obj)} {xe : Value → Shared → Prop} {W : WX} {E : XK} {tb : TE} {p1 p2 : Pos}
    (I : Inv X pinz σ H s) (L : LamS X.env.scope scope) (hf : s.heap.get? f = some (PySem.W.kla_obj "<lambda>" (X.env.qual ++ "<lambda>") params body scope (cloFrom X.env.cells scope.names []) pm c' ctv)) (hfn : H f = none) (hfr : f ∉ frs X.stack)
    (hbind : bindArgs (PySem.W.kla_fn "<lambda>" (X.env.qual ++ "<lambda>") params body scope (cloFrom X.env.cells scope.names []) pm (.ref c') ctv) ⟨[], []⟩ = pure [])
    (tk : Takes ((cxOf CXg X.prog X.w X.K X.mg X.base Ng qg sg g cdg X.A X.stack s H Eg).tr pn xe) W) (hrm : RoomG (k + 1) (X.A.deeper (envOfC qg sg s.heap.objs.size g cdg)))
    (hbdy : ∀ (A : Around) (outer : List Env) (s : Shared) (H : Hp), RoomG k (A.deeper (lamEnv X scope s.heap.objs.size f c')) → PE (lamCx X A outer s H E scope f c') body tb)
    (hN : Ng[i]? = some a) (hv : Vis sg a) (hd : (a == ("__debug__" : Str)) = false := by decide) (hcd : (a == ("__classdict__" : Str)) = false := by decide) :
    PE ((cxOf CXg X.prog X.w X.K X.mg X.base Ng qg sg g cdg X.A X.stack s H Eg).tr pn xe) (.Call (.Name a p1) [] [] p2)
      (fun σZ HZ Q => σZ[i]? = some (some (.ref f)) ∧ HZ c' = some (CodeO c' (X.env.qual ++ "<lambda>")) ∧ (∀ cls d H', E cls d H' → W cls d σZ H') ∧ tb σ HZ Q) := by
  refine ⟨fun pinzZ sZ σZ HZ Q JZ h => ?_⟩
  obtain ⟨hs, hc, hW, hty⟩ := h
  refine wpAny_Call_Name_kw (thn ((pe_var (pos := p1) (i := i) hN hv hd hcd).run pinzZ sZ σZ HZ (fun v H1 => v = .ref f ∧ H1 = HZ) JZ ⟨.ref f, hs, rfl, rfl⟩) fun u sy ⟨v, H1, J1, ry, qy⟩ => ?_)
  obtain ⟨ev, eH⟩ := qy
  subst ev
  rw [eH] at J1
  obtain rfl : u = Value.ref f := ry
  have ofy : sy.heap.get? f = some (PySem.W.kla_obj "<lambda>" (X.env.qual ++ "<lambda>") params body scope (cloFrom X.env.cells scope.names []) pm c' ctv) := J1.base.keep f _ hf hfn hfr (fun z => nomatch (show f ∈ ([] : List Addr) from z))
  refine PySem.W.callWith_F0 ⟨_, _, _, _, ofy⟩ ?_
  have unn : Un (frs X.stack) [] H HZ s.heap sy.heap := J1.base
  obtain ⟨⟨oc, vs, t, hoc, hdc, hvc⟩, _, _⟩ := J1.hok c' _ hc
  have rcd : codeAny (model X.prog X.w) (X.A.deeper (envOfC qg sg s.heap.objs.size g cdg)) (.call (.ref f) ⟨[], []⟩) (CR (L2.CX X.prog X.w) (envOfC qg sg s.heap.objs.size g cdg :: X.stack) X.prog X.w HZ sy Q E) sy := by
    refine PySem.W.kla_callFunE hrm.depth ofy rfl L.co L.gen rfl ⟨c', oc, vs, t, rfl, hoc, hdc, hvc⟩ ?_
    rw [hbind]
    refine wpAny_pure (wpAny_newFunctionEnv (fun y hy => (L.own y hy).2) (fun y hy => absurd hy (by simp)) (fun h₁ hns hsb => ⟨J1.nolimit.fresh _ hsb, ?_⟩) L.kind)
    show codeAny _ _ (.expr body (lamEnv X scope sy.heap.objs.size f c')) _ _
    have kpp : ∀ b o, sy.heap.get? b = some o → h₁.get? b = some o := fun b o e => hsb.extBut b o (Nat.ne_of_lt (Heap.lt_size e)) (Heap.get?_push_of_some _ e)
    have J : Inv (lamCx X (X.A.deeper (envOfC qg sg s.heap.objs.size g cdg)) (envOfC qg sg s.heap.objs.size g cdg :: X.stack) sy HZ E scope f c') [] σ HZ { sy with heap := h₁, toks := sy.toks + ([] : List (Str × Value)).length } :=
      lam_start2 I L J1.env0 hrm.hd unn hns kpp
    refine PySem.W.kla_codeExpr (wpAny_mono ((hbdy _ _ sy HZ (hrm.deeper _)).run [] _ _ HZ Q J hty) (fun v sz hqq => ?_) fun e sz hqq => hqq)
    obtain ⟨w', H', J', rv, q⟩ := hqq
    exact ⟨w', H', J'.os, J'.bare, J'.base, J'.hok, rv, q⟩
  refine wpAny_call (codeAny_mono rcd fun r sz hqq => ?_)
  cases r with
  | error e => exact tk e sz (XE.of_call J1 (fun cls d H' h => hW cls d H' h) hqq)
  | ok flw =>
    cases flw with
    | ret u => exact J1.after hqq
    | next => exact False.elim hqq
    | brk => exact False.elim hqq
    | cont => exact False.elim hqq
end
theorem run_ofSg {CX : CXT} {P : Program} {w : World} {K : PySem.W.Frag} {mg : Str → Option Value} {base : Heap} {k : Nat} {f : Addr} {name qual : Str} {params : Arguments} {body : List Stmt} {scope : Scope} {dV kV doc pm cdv ct oc : Value} {an od : Option Addr}
    {osl : Array (Option Value)} {N ps : List Str} (lk : K.lookup f = some ⟨oc, od, .func (PySem.W.fnOf name qual params body scope dV kV doc pm an cdv ct), osl⟩) (hcd : PySem.W.codeIn K cdv qual = true) (S : FnScope N ps scope)
    {A : Around} {outer : List Env} {s : Shared} {H : Hp} {args : Args} {uz : List Value} {vs : List V} {Q : VK} {E : XK} (hrm : RoomG (k + 1) A) (e0 : Env0 P w K mg base A outer s H) (hb : BindsTo s (PySem.W.fnOf name qual params body scope dV kV doc pm an cdv ct) args (ps.zip uz)) (r : Vals vs uz) (hln : vs.length = ps.length)
    (hbdy : RoomG k (A.deeper (envOfC qual scope s.heap.objs.size f cdv)) → ∃ t, PSs (cxOf CX P w K mg base N qual scope f cdv A outer s H E) body t ∧ t { nx := fun _ H' => Q .non H', rt := Q } (L2.start N vs) H) :
    codeAny (model P w) A (.call (.ref f) args) (CR CX outer P w H s Q E) s := by
  have KXX : K.In s.heap := e0.mod.kin.keeps fun b o e => (e0.bs b o e).1
  have limi : s.heap.NoLimit := e0.mod.nolimit.keeps fun b o e => (e0.bs b o e).1
  have hkd : ∀ y ∈ ps.zip uz, scope.names.lookup y.1 = some .local ∨ (scope.names.lookup y.1 = some .cell ∧ ((cellsFrom (s.heap.objs.size + 1) scope.names []).lookup y.1).isSome = true) := fun ⟨n, v⟩ hy => by
    rcases S.par n (List.of_mem_zip hy).1 with q | q
    · exact .inl q
    · exact .inr ⟨q, PySem.W.cellsFrom_some _ _ _ (.inl q)⟩
  refine codeAny_call_function hrm.depth (KXX _ _ lk) rfl S.co S.gen rfl (PySem.W.codeRec_of KXX hcd) (hb _ _ _ _ ?_)
  refine wpAny_newFunctionEnv_cells S.kind hkd fun env he sy x => ?_
  subst he
  refine ⟨limi.keeps x.toInCall.keep, codeAny_func ?_⟩
  obtain ⟨t, hty, hqq⟩ := hbdy (hrm.deeper _)
  have I : Inv (cxOf CX P w K mg base N qual scope f cdv A outer s H E) [] (L2.start N vs) H sy := inv_start S hrm.hd e0 hln r x
  refine wpAny_mono (hty.run [] sy (L2.start N vs) H _ I hqq) (fun flw sz hs => ?_) fun e sz hs => hs
  have fini : ∀ {σ' : L2.St} {H' : Hp} {v : V} {u : Value}, Inv (cxOf CX P w K mg base N qual scope f cdv A outer s H E) [] σ' H' sz → L2.RelV v u → Q v H' → CE outer P w H s Q u sz :=
    fun {σ' H' v u} J rv q => ⟨v, H', J.os, J.bare, J.base, J.hok, rv, q⟩
  cases flw with
  | ret u =>
    obtain ⟨v, σ', H', J, rv, q⟩ := hs
    exact fini J rv q
  | next =>
    obtain ⟨σ', H', J, q⟩ := hs
    exact fini (v := V.non) (u := Value.none) J rfl q
  | brk =>
    obtain ⟨_, _, _, q⟩ := hs
    exact False.elim q
  | cont =>
    obtain ⟨_, _, _, q⟩ := hs
    exact False.elim q
def GivesTog (X : Cx) (Ng : List Str) (x : Str) (sg : Scope) (g : Addr) (cdg : Value) (bg : List Stmt) (a : Str) (q : Str) (TT : (XK → Hp → VK → Prop) → Hp → VK → Prop) : Prop :=
  ∀ (f c' : Addr) (s : Shared) (H : Hp) (Q : VK) (tl : XK → Hp → VK → Prop),
    (∀ (W : WX) (pn : List (Addr × Obj)) (xe : Value → Shared → Prop) (E : XK) (p1 p2 : Pos), Takes ((cxOf C8.CX0 X.prog X.w X.K X.mg X.base Ng x sg g cdg X.A X.stack s H C8.E0).tr pn xe) W →
      PE ((cxOf C8.CX0 X.prog X.w X.K X.mg X.base Ng x sg g cdg X.A X.stack s H C8.E0).tr pn xe) (.Call (.Name a p1) [] [] p2) (fun σZ HZ Q => σZ[0]? = some (some (.ref f)) ∧ HZ c' = some (CodeO c' q) ∧ (∀ cls d H', E cls d H' → W cls d σZ H') ∧ tl E HZ Q)) →
    H c' = some (CodeO c' q) → TT tl H Q →
    ∃ t, PSs (cxOf C8.CX0 X.prog X.w X.K X.mg X.base Ng x sg g cdg X.A X.stack s H C8.E0).nox bg t ∧ t { nx := fun _ H' => Q .non H', rt := Q } (L2.start Ng [.ref f]) H
section
variable {X : Cx}
theorem pe_lamcallg {T : List (Addr × Str)} {TT : (XK → Hp → VK → Prop) → Hp → VK → Prop} {x a : Str} {g c P : Addr} {k : Nat} {pg : Arguments} {bg : List Stmt} {sg : Scope} {dV kV doc pm cdv ct oc : Value} {an od : Option Addr} {osl : Array (Option Value)} {Ng : List Str}
    {params : Arguments} {body : Expr} {scope : Scope} {t : XK → TE} {p lpos pos : Pos} (hg : Gl X x) (hm : X.mg x = some (.ref g)) (hk : PySem.W.keepIn X.K (.ref g) = true)
    (lk : X.K.lookup g = some ⟨oc, od, .func (PySem.W.fnOf x x pg bg sg dV kV doc pm an cdv ct), osl⟩) (hcg : PySem.W.codeIn X.K cdv x = true) (hb : L2.Binds X.K (PySem.W.fnOf x x pg bg sg dV kV doc pm an cdv ct) [a] []) (Sg : FnScope Ng [a] sg) (hNg : Ng[0]? = some a) (hva : Vis sg a)
    (hG : GivesTog X Ng x sg g cdv bg a (X.env.qual ++ "<lambda>") TT)
    (TB : TabB X.base X.mg c P) (hcode : X.env.code = .ref c) (hmT : (P, X.env.qual ++ "<lambda>") ∈ T) (hu : ∀ p ∈ T, p.1 = P → p.2 = X.env.qual ++ "<lambda>") (hrm : RoomG (k + 2) X.A) (L : LamS X.env.scope scope) (hdef : defaultsOf params X.env = ([], []))
    (hbind : ∀ (q : Str) (cl : List (Str × Addr)) (pm cv ctv : Value), bindArgs (PySem.W.kla_fn "<lambda>" q params body scope cl pm cv ctv) ⟨[], []⟩ = pure [])
    (hbdy : ∀ (A : Around) (outer : List Env) (s : Shared) (H : Hp) (E : XK) (f c' : Addr), RoomG k (A.deeper (lamEnv X scope s.heap.objs.size f c')) → PE (lamCx X A outer s H E scope f c') body (t E))
    (hdb : (x == ("__debug__" : Str)) = false := by decide) (hd : (a == ("__debug__" : Str)) = false := by decide) (hcd : (a == ("__classdict__" : Str)) = false := by decide) :
    PE X (.Call (.Name x p) [.Lambda params body scope lpos] [] pos) (tLamg P T TT t) := by
  refine ⟨fun pinz s σ H Q I h => ?_⟩
  obtain ⟨hTb, h⟩ := h
  refine wpAny_Call_Name_kw (ld_glob I hg hm ?_ hdb)
  refine PySem.W.callWith_K (h₀ := X.base) I.ok.mod.kin hk ?_ (by rfl) (by rfl)
  show wpAny _ _ (spliced ((false, eval (.Lambda params body scope lpos) X.env) :: backTo pos (starEach [] X.env))) _ _ s
  refine Calls.spliced_cons (lam_makeg I TB hcode hmT hu hTb hdef (L.has I.ok) fun f c' pm' ctv H1 sz J1 eN T1 hf hfn hfr hco => ?_)
  refine Calls.spliced_nil ⟨J1.kIn, ?_⟩
  have rcd : codeAny (model X.prog X.w) X.A (.call (.ref g) ⟨[.ref f], []⟩) (CR C8.CX0 X.stack X.prog X.w H1 sz Q C8.E0) sz := by
    refine run_ofSg (N := Ng) (ps := [a]) (uz := [.ref f]) (vs := [.ref f]) lk hcg Sg hrm J1.env0 (hb sz [.ref f] J1.kIn rfl) (.cons rfl .nil) rfl fun hr' => ?_
    obtain ⟨t', ht', hqz⟩ := hG f c' sz H1 Q (fun E H' Q' => t E σ H' Q') (fun W pn xe E p1 p2 tk => pe_actg (i := 0) J1 L hf hfn hfr (hbind _ _ _ _ _) tk hr' (fun A outer s H hr2 => hbdy A outer s H E f c' hr2) hNg hva hd hcd) hco (h H1 eN T1)
    exact ⟨t', ht'.nox, hqz⟩
  refine wpAny_call (codeAny_mono rcd fun r s2 hqq => ?_)
  cases r with
  | error e => exact (show False from hqq).elim
  | ok flw =>
    cases flw with
    | ret u => exact J1.after hqq
    | next => exact False.elim hqq
    | brk => exact False.elim hqq
    | cont => exact False.elim hqq
end
end LamX
set_option Elab.async false
set_option linter.all false
set_option maxRecDepth 100000
set_option maxHeartbeats 4000000
namespace PP
open PySem L2
def ExtH (H H' : Hp) : Prop := ∀ b o, H b = some o → H' b = some o
theorem ExtH.refl (H : Hp) : ExtH H H := fun _ _ e => e
theorem ExtH.new {H : Hp} {p : Addr} {o : HO} (h : H p = none) : ExtH H (upd H p o) := fun b u e => by rw [upd_ne (ne_of_none e h)]; exact e
section
variable {F : Fm} {E : XC} {Z : AS} {ow ow1 : Ow} {σ : L2.St} {H H1 H' : Hp} {s : S} {v : V}
theorem Keep.ext {A Y : AS} (e : ExtH H H1) : Keep A Y H H1 := fun a o h _ => ⟨o, e a o h, .refl o, fun _ => rfl⟩
theorem ext_eq (e : ExtH H H1) {a : Addr} (h : H a ≠ none) : H1 a = H a := by
  cases q : H a with
  | none => exact absurd q h
  | some o => exact e a o q
theorem Rep.ext (R : Rep F Z ow σ H s) (e : ExtH H H1) : Rep F Z ow σ H1 s := by
  refine ⟨R.keep.trans (Keep.ext e), R.strm.keep (ext_eq e R.strm.is) (ext_eq e R.strm.il) (fun b o h _ => e b o h), R.mds, R.zs, R.z0, fun a z => ?_, R.mdz, R.oz, R.od, R.oin, R.len, fun i p h => ?_⟩
  · rw [ext_eq e (R.zin a z).1]; exact R.zin a z
  · obtain ⟨v, hv, ok⟩ := R.sl i p h
    exact ⟨v, hv, ok.tr (Keep.ext (A := Av' Z ow) (Y := Z) e) (fun a z => .inl z) fun a q => ext_eq e (R.ojn q)⟩
theorem Eff.ext (e : Eff F Z ow H ow1 H1) (x : ExtH H1 H') : Eff F Z ow H ow1 H' :=
  e.trans ⟨Keep.ext x, fun i p h => .inl ⟨i, h⟩, fun p h q => h (by rw [ext_eq x h] at q; exact q)⟩
/-- a table is written -/
theorem Rep.extP {P : Addr} (R : Rep F Z ow σ H s) (hP : ∃ q, (P, q) ∈ F.T.tb) (e : LamX.ExtP P H H1) (ht : LamX.Tabs F.T.tb H1) : Rep F Z ow σ H1 s ∧ Eff F Z ow H ow H1 := by
  have hA : F.T.A P := .inr (.inr hP)
  have hz : Z P := R.zs P hA
  have hm : F.md P := R.mds P hA
  obtain ⟨q0, hq0⟩ := hP
  obtain ⟨ps, hps, _⟩ := R.strm.tabs _ hq0
  obtain ⟨ps1, hps1, _⟩ := ht _ hq0
  have hps : H P = some (.tbl ps) := hps
  have hps1 : H1 P = some (.tbl ps1) := hps1
  obtain ⟨h1, h2, h3, h4, h5, h6, h7, h8, h9, h10⟩ := R.strm
  have ns : F.T.s ≠ P := fun z => by rw [z, hps] at h2; cases h2
  have nl : F.T.l ≠ P := fun z => by rw [z, hps] at h3; cases h3
  have k : ∀ {A : AS}, A P → Keep A Z H H1 := fun {A} ha a o q n => ⟨o, e a o q fun z => n (by rw [z]; exact ha), .refl o, fun _ => rfl⟩
  refine ⟨⟨R.keep.trans fun a o q n => ⟨o, e a o q fun z => n (by rw [z]; exact hm), .refl o, fun _ => rfl⟩, ⟨h1, e _ _ h2 ns, e _ _ h3 nl, h4, h5, h6, h7, h8, h9, ht⟩, R.mds, R.zs, R.z0, fun a z => ?_, R.mdz, R.oz, R.od, R.oin, R.len, fun i p h => ?_⟩, ⟨k (.inl hm), fun i p h => .inl ⟨i, h⟩, fun p h => ?_⟩⟩
  · by_cases ha : a = P
    · subst ha; exact .of hps1 nofun
    · have := R.zin a z
      cases q : H a with
      | none => exact absurd q this.1
      | some o => rw [e a o q ha, ← q]; exact this
  · obtain ⟨v, hv, ok⟩ := R.sl i p h
    refine ⟨v, hv, ok.tr (k (A := Av' Z ow) (.inl hz)) (fun a z => .inl z) fun a q => ?_⟩
    cases x : H a with
    | none => exact absurd x (R.ojn q)
    | some o => exact e a o x fun z => R.oz i a q (by rw [z]; exact hz)
  · by_cases ha : p = P
    · subst ha; rw [hps1]; exact nofun
    · cases x : H p with
      | none => exact absurd x h
      | some o => rw [e p o x ha]; exact nofun
theorem pt_gt : ∀ (l : List (Option PP.P)) (i : Nat), pt l i (gt l i) = l
  | [], _ => rfl
  | _ :: _, 0 => rfl
  | x :: l, i + 1 => by show x :: pt l i (gt l i) = _; rw [pt_gt l i]
theorem Rep.frz1 (R : Rep F Z ow σ H s) (i : Nat) : ∃ ow', Rep F Z ow' σ H { s with sl := pt s.sl i (frzP (gt s.sl i)) } ∧ ∀ j p, ow' j = some p → ow j = some p := by
  have id' : frzP (gt s.sl i) = gt s.sl i → ∃ ow', Rep F Z ow' σ H { s with sl := pt s.sl i (frzP (gt s.sl i)) } ∧ ∀ j p, ow' j = some p → ow j = some p := fun q => ⟨ow, by rw [q, pt_gt]; exact R, fun _ _ h => h⟩
  cases h : gt s.sl i with
  | none => rw [h] at id'; exact id' rfl
  | some q =>
    cases q with
    | fz d => rw [h] at id'; exact id' rfl
    | io d => rw [h] at id'; exact id' rfl
    | stm => rw [h] at id'; exact id' rfl
    | fn _ _ _ => rw [h] at id'; exact id' rfl
    | ini _ _ => rw [h] at id'; exact id' rfl
    | df _ => rw [h] at id'; exact id' rfl
    | own xs =>
      obtain ⟨v, hv, a, vs, rfl, ho, nm, h0, e, l⟩ := R.sl i _ h
      refine ⟨dropO ow i, R.store (by rw [h]; rfl) rfl hv (fun _ _ => rfl) (.lst (fun z => ?_) e (l.mono fun a z => .inl (z.imp id fun ⟨j, q⟩ => ⟨j, (dropO_sub q).2⟩))), fun j p q => (dropO_sub q).2⟩
      rcases z with z | ⟨j, q⟩
      · exact R.oz i a ho z
      · exact (dropO_sub q).1 (R.od j i a (dropO_sub q).2 ho)
    | ownd xs =>
      obtain ⟨v, hv, a, vs, rfl, ho, nm, h0, e, ek, l⟩ := R.sl i _ h
      refine ⟨dropO ow i, R.store (by rw [h]; rfl) rfl hv (fun _ _ => rfl) (.dct (fun z => ?_) (.inl e) ek (l.mono fun a z => .inl (z.imp id fun ⟨j, q⟩ => ⟨j, (dropO_sub q).2⟩))), fun j p q => (dropO_sub q).2⟩
      rcases z with z | ⟨j, q⟩
      · exact R.oz i a ho z
      · exact (dropO_sub q).1 (R.od j i a (dropO_sub q).2 ho)
theorem Rep.frz : ∀ (caps : List Nat) {ow : Ow} {s : S}, Rep F Z ow σ H s → ∃ ow', Rep F Z ow' σ H { s with sl := frzS caps s.sl } ∧ ∀ j p, ow' j = some p → ow j = some p
  | [], ow, s, R => ⟨ow, R, fun _ _ h => h⟩
  | i :: is, ow, s, R => by
    obtain ⟨ow1, R1, h1⟩ := R.frz1 i
    obtain ⟨ow2, R2, h2⟩ := Rep.frz is R1
    exact ⟨ow2, R2, fun j p q => h1 j p (h2 j p q)⟩
theorem gt_hide : ∀ {l : List (Option PP.P)} {i : Nat} {p : PP.P}, gt (l.map hideP) i = some p → gt l i = some p ∧ ((∃ d, p = .fz d) ∨ p = .stm ∨ ∃ x, p = .df x)
  | [], _, _, h => by cases h
  | x :: _, 0, p, h => by
    have h : hideP x = some p := h
    cases x with
    | none => cases h
    | some q => cases q <;> first | (cases h; exact ⟨rfl, .inl ⟨_, rfl⟩⟩) | (cases h; exact ⟨rfl, .inr (.inl rfl)⟩) | (cases h; exact ⟨rfl, .inr (.inr ⟨_, rfl⟩)⟩) | cases h
  | _ :: l, i + 1, p, h => gt_hide (l := l) (i := i) h
/-- the slots as a lambda has them -/
theorem Rep.hide (R : Rep F Z ow σ H s) : Rep ⟨F.G, F.T, H, F.T.A, Av' Z ow⟩ (Av' Z ow) (fun _ => none) σ H ⟨s.sl.map hideP, s.c⟩ := by
  have sub : ∀ a, Av' (Av' Z ow) (fun _ => none) a → Av' Z ow a ∨ H a = none := fun a z => by
    rcases z with z | ⟨_, z⟩
    · exact .inl z
    · cases z
  refine ⟨Keep.refl _ _ _, R.strm, fun _ z => z, fun a z => .inl (R.zs a z), fun a z => .inl z, fun a z => R.avT z, fun a z => .inl (.inl (R.zs a z)), fun _ _ e => (by cases e), fun _ _ _ e => (by cases e), fun _ _ e => (by cases e), by show (s.sl.map hideP).length = _; rw [List.length_map]; exact R.len, fun i p h => ?_⟩
  obtain ⟨h1, h2⟩ := gt_hide h
  obtain ⟨v, hv, ok⟩ := R.sl i p h1
  rcases h2 with ⟨d, rfl⟩ | rfl | ⟨x, rfl⟩
  · exact ⟨v, hv, ok.1.mono sub, rfl⟩
  · exact ⟨v, hv, ok.1, rfl⟩
  · exact ⟨v, hv, ok.1, rfl⟩
end
/-- an error, a value that came, of which the def tells -/
def TdE (G : Gc) (a : Ask) (A : AS) (Q : VK) (cls : Value) (d : Option Addr) (H' : Hp) : Prop := ∃ xn dd, XcIs G A H' cls d xn ∧ a.err xn = some dd ∧ (∀ a, A a → H' a ≠ none) ∧ ∀ v H'', ExtH H' H'' → Fz G A H'' v dd → Q v H''
def TdV (G : Gc) (a : Ask) (A : AS) (Q : VK) (v : V) (H' : Hp) : Prop := ∃ dv dd, Fz G A H' v dv ∧ a.val dv = some dd ∧ (∀ a, A a → H' a ≠ none) ∧ ∀ v' H'', ExtH H' H'' → Fz G A H'' v' dd → Q v' H''
/-- what the def makes of the lambda's reading -/
def TTs (G : Gc) (a : Ask) (tl : XK → Hp → VK → Prop) (H : Hp) (Q : VK) : Prop := ∃ A : AS, ∀ (Ech : XK) (Qch : VK), (∀ cls d H', TdE G a A Q cls d H' → Ech cls d H') → (∀ v H', TdV G a A Q v H' → Qch v H') → tl Ech H Qch
/-- such a def -/
structure AskE (P : Program) (w : World) (K : PySem.W.Frag) (mg : Str → Option Value) (base : Heap) (G : Gc) (x : Str) (a : Ask) : Prop where
  ok : ∃ (g : Addr) (y : Str) (N : List Str) (pg : Arguments) (bg : List Stmt) (sg : Scope) (dV kV doc pm cdv ct oc : Value) (an od : Option Addr) (osl : Array (Option Value)), mg x = some (.ref g) ∧ PySem.W.keepIn K (.ref g) = true ∧
    K.lookup g = some ⟨oc, od, .func (PySem.W.fnOf x x pg bg sg dV kV doc pm an cdv ct), osl⟩ ∧ PySem.W.codeIn K cdv x = true ∧ L2.Binds K (PySem.W.fnOf x x pg bg sg dV kV doc pm an cdv ct) [y] [] ∧ FnScope N [y] sg ∧ N[0]? = some y ∧ Vis sg y ∧ (y == ("__debug__" : Str)) = false ∧ (y == ("__classdict__" : Str)) = false ∧
    ∀ (X : Cx) (q : Str), X.prog = P → X.w = w → X.K = K → X.mg = mg → X.base = base → LamX.GivesTog X N x sg g cdv bg y q (TTs G a)
theorem PE.exi {α : Type} {X : Cx} {e : Expr} {p : α → Prop} {t : α → TE} (h : ∀ i, p i → PE X e (t i)) : PE X e (fun σ H Q => ∃ i, p i ∧ t i σ H Q) := ⟨fun pins s σ H Q I ⟨i, hi, w⟩ => (h i hi).run pins s σ H Q I w⟩
section
variable {X : Cx} {F : Fm} {E : XC} {Γ : Env}
/-- the table in which the lambdas of this def are kept -/
structure TabE (X : Cx) (F : Fm) : Prop where
  ok : ∃ c P, LamX.TabB X.base X.mg c P ∧ X.env.code = .ref c ∧ (P, X.env.qual ++ "<lambda>") ∈ F.G.tb ∧ ∀ p ∈ F.G.tb, p.1 = P → p.2 = X.env.qual ++ "<lambda>"
theorem sx_lam (g : Gd X F E) {k : Nat} {x : Str} {a : Ask} {caps : List Nat} {params : Arguments} {body : Expr} {scope : Scope} {ib : Ex} {p lpos pos : Pos} (ak : AskE X.prog X.w X.K X.mg X.base F.G x a) (hΓ : Γ.ask x = some a) (TB : TabE X F) (hr : RoomG (k + 2) X.A)
    (L : LamX.LamS X.env.scope scope) (hdef : defaultsOf params X.env = ([], []))
    (hbind : ∀ (q : Str) (cl : List (Str × Addr)) (pm cv ctv : Value), bindArgs (PySem.W.kla_fn "<lambda>" q params body scope cl pm cv ctv) ⟨[], []⟩ = pure [])
    (hb : ∀ (A : Around) (outer : List PySem.Env) (s : Shared) (H : Hp) (E' : XK) (f c' : Addr) (T' : SA) (h0 : Hp) (md z0 : AS) (Ex : XC), Gd (LamX.lamCx X A outer s H E' scope f c') ⟨F.G, T', h0, md, z0⟩ Ex → RoomG k (A.deeper (LamX.lamEnv X scope s.heap.objs.size f c')) → SX (LamX.lamCx X A outer s H E' scope f c') ⟨F.G, T', h0, md, z0⟩ Ex Γ body ib)
    (hg : Gl X x := by rfl) (hdb : (x == ("__debug__" : Str)) = false := by decide) : SX X F E Γ (.Call (.Name x p) [.Lambda params body scope lpos] [] pos) (.lam x caps ib) := by
  obtain ⟨ga, y, N, pg, bg, sg, dV, kV, doc, pm, cdv, ct, oc, an, od, osl, hm, hk, lk, hcg, hbi, Sg, hN, hv, hd1, hd2, hG⟩ := ak.ok
  obtain ⟨c, P, tb, hcode, hmT, hu⟩ := TB.ok
  refine PEimp (LamX.pe_lamcallg (T := F.G.tb) (TT := TTs F.G a) (t := fun E' σ H Q => ∃ i : Fm × XC, (i.1.G = F.G ∧ i.1.T.tb = i.1.G.tb ∧ ∀ cls d σ' H', wx i.1 i.2 cls d σ' H' → E' cls d H') ∧ LR i.1 i.2 (evP Γ ib).r σ H Q) hg hm hk lk hcg hbi Sg hN hv (hG X _ rfl rfl rfl rfl rfl) tb hcode hmT hu hr L hdef hbind
    (fun A outer s H E' f c' hr2 => PE.exi fun i hi => by
      obtain ⟨⟨G', T', h0, md, z0⟩, Ex⟩ := i
      obtain ⟨hi1, hi2, hi3⟩ := hi
      obtain rfl : G' = F.G := hi1
      exact hb A outer s H E' f c' T' h0 md z0 Ex ⟨g.hK, rfl, g.nd, hr2.units, hr2.g, Takes.imp (takes_of (X := LamX.lamCx X A outer s H E' scope f c') (E := E') rfl rfl rfl rfl) hi3, hi2⟩ hr2) hdb hd1 hd2) fun σ H Q h => ?_
  obtain ⟨Z, ow, s, K, R, hf, hq⟩ := h
  have hf : askE (Γ.ask x) caps (evP Γ ib).r s K E := hf
  rw [hΓ] at hf
  have hf : (evP Γ ib).r ⟨(frzS caps s.sl).map hideP, s.c⟩ (fun r s' => tell (a.val r.d) { s with sl := frzS caps s.sl } s'.c K) (fun xn s' => tell (a.err xn) { s with sl := frzS caps s.sl } s'.c K) := hf
  have gtb := g.tb
  refine ⟨by rw [← gtb]; exact R.strm.tabs, fun H1 eP t1 => ?_⟩
  obtain ⟨ow1, R1, sub1⟩ := R.frz caps
  rw [← gtb] at t1 hmT
  obtain ⟨R2, e2⟩ := R1.extP ⟨_, hmT⟩ eP t1
  have e1 : Eff F Z ow H ow1 H1 := ⟨e2.k.mono (fun a z => z.imp id fun ⟨i, q⟩ => ⟨i, sub1 i a q⟩) fun _ z => z, fun i p q => .inl ⟨i, sub1 i p q⟩, e2.dm⟩
  let F' : Fm := ⟨F.G, F.T, H1, F.T.A, Av' Z ow1⟩
  let s0 : S := { s with sl := frzS caps s.sl }
  have R3 : Rep F' (Av' Z ow1) (fun _ => none) σ H1 ⟨s0.sl.map hideP, s0.c⟩ := R2.hide
  have fin : ∀ {H' : Hp} {c' : Stm} {dd : D} {Y : AS} {ow' : Ow} {σ' : L2.St} {s' : S}, Rep F' Y ow' σ' H' s' → tell (some dd) s0 s'.c K → ∀ v H'', ExtH H' H'' → Fz F.G (Av' Z ow1) H'' v dd → Q v H'' := fun {H' c' dd Y ow' σ' s'} R' w v H'' x z => by
    have kp : Keep F.T.A (lentA Z ow1 []) H1 H' := R'.keep.mono (fun _ h => h) fun a h => h.1
    have Rc := R2.called (lent0 _ _) kp R'.strm (fun _ z => z) fun _ z => .inl z
    exact hq (.fz dd) _ v H'' ow1 w ⟨Rc.ext x, z⟩ (e1.trans ((Eff.called R2 (lent0 _ _) kp R'.strm).ext x))
  refine ⟨Av' Z ow1, fun Ech Qch hE hQ => ⟨⟨F', fun xn s' => tell (a.err xn) s0 s'.c K⟩, ⟨rfl, g.tb, fun cls d σ' H' hx => hE cls d H' ?_⟩, Av' Z ow1, fun _ => none, _, _, R3, hf, fun r s' v H' ow' w rr ee => hQ v H' ?_⟩⟩
  · obtain ⟨Y, ow', s', xn, R', xi, w⟩ := hx
    have sb : ∀ b, Av' Z ow1 b → Av' Y ow' b := fun b z => by
      rcases R'.z0 b z with q | q
      · exact .inl q
      · exact R'.mdz b q
    have w : tell (a.err xn) s0 s'.c K := w
    cases hE : a.err xn with
    | none => rw [hE] at w; exact w.elim
    | some dd =>
      rw [hE] at w
      exact ⟨xn, dd, xi.mono sb, hE, fun b q => R'.avin (sb b q), fun v H'' x z => fin (c' := s'.c) R' w v H'' x z⟩
  · obtain ⟨R', z⟩ := rr.fz' R3
    have w : tell (a.val r.d) s0 s'.c K := w
    cases hE : a.val r.d with
    | none => rw [hE] at w; exact w.elim
    | some dd =>
      rw [hE] at w
      exact ⟨r.d, dd, z.mono fun b q => .inl (.inl q), hE, fun b q => R'.avin (.inl q), fun v' H'' x z => fin (c' := s'.c) R' w v' H'' x z⟩
end
end PP
set_option Elab.async false
set_option linter.all false
set_option maxRecDepth 100000
set_option maxHeartbeats 4000000
namespace PP
open PySem L2
/-- what is read of an error caught -/
structure ErrF (K : PySem.W.Frag) (mg : Str → Option Value) (G : Gc) (c f : Str) : Prop where
  x : XfC K (G.ga c)
  no : PySem.W.findIn K (.ref (G.ga c)) f = some none
  ex : PySem.W.exmOne K (.ref (G.ga c)) (.ref (G.ga c)) = some true
  m : mg c = some (.ref (G.ga c))
def askB (c f : Str) : Ask := ⟨fun _ => some .non, fun xn => if xn.1 = c then fld xn.2 f else none⟩
section
variable {K : PySem.W.Frag} {mg : Str → Option Value} {G : Gc} {c f : Str} {A : AS} {H : Hp} {cls : Value} {d : Option Addr} {xn : Xn}
theorem xc_fld {dd : D} (h : XcIs G A H cls d xn) (e : fld xn.2 f = some dd) : ∃ (dx : Addr) (fs : List (Str × V)) (v : V), d = some dx ∧ H dx = some (.xd fs) ∧ fs.lookup f = some v ∧ Fz G A H v dd := by
  obtain ⟨_, h⟩ := h
  rcases h with ⟨_, q⟩ | ⟨dx, fs, e1, n, e2, ek, l⟩
  · rw [q] at e; cases e
  · rcases fld_lookup f ek l with ⟨_, q⟩ | ⟨v, d', q1, q2, z⟩
    · rw [q] at e; cases e
    · rw [q2] at e; cases e
      exact ⟨dx, fs, v, e1, e2, q1, z⟩
theorem askB_inv {dd : D} (h : (askB c f).err xn = some dd) : xn.1 = c ∧ fld xn.2 f = some dd := by
  have h : (if xn.1 = c then fld xn.2 f else none) = some dd := h
  by_cases e : xn.1 = c
  · rw [if_pos e] at h; exact ⟨e, h⟩
  · rw [if_neg e] at h; cases h
end
section
variable {P : Program} {w : World} {K : PySem.W.Frag} {mg : Str → Option Value} {base : Heap} {G : Gc} {x y n c f : Str} {params : Arguments} {scope : Scope} {kws : List (Str × V)} {ad : Addr} {fd : FuncData} {p1 p2 p3 p4 p5 p6 p7 p8 p9 p10 p11 p12 : Pos} {k1 k2 : Nat}
/-- try: a() / except c as n: return n.f / return None -/
theorem ask_B (F : FunD K x x params [.Try [.Expr (.Call (.Name y p1) [] [] p2) p3] [.ExceptHandler (some (.Name c p4)) (some n) [.Return (some (.Attribute (.Name n p5) f p6)) p8] p9] [] [] p10, .Return (some (.Constant .none k2 p11)) p12] scope [] kws ad fd)
    (S : FnScope [y, n] [y] scope) (hm : mg x = some (.ref ad)) (hb : Binds K fd [y] []) (er : ErrF K mg G c f) (hy : Vis scope y) (hn : scope.names.lookup n = some .local) (hc : scope.names.lookup c = some .globalImplicit) (hd1 : (y == ("__debug__" : Str)) = false) (hd2 : (y == ("__classdict__" : Str)) = false) (hd3 : (c == ("__debug__" : Str)) = false) (hd4 : (n == ("__debug__" : Str)) = false) (hd5 : (n == ("__classdict__" : Str)) = false) :
    AskE P w K mg base G x (askB c f) := by
  obtain ⟨oc, od, dV, kV, doc, pm, an, cdv, ct, osl, rfl, lk, hcd, _, _⟩ := F.ex
  refine ⟨ad, y, [y, n], params, _, scope, dV, kV, doc, pm, cdv, ct, oc, an, od, osl, hm, F.kp, lk, hcd, hb, S, rfl, hy, hd1, hd2, ?_⟩
  rintro X q rfl rfl rfl rfl rfl f' c' s H Q tl act hco ⟨A, h⟩
  refine ⟨_, pss_cons (ps_try_as (X := (cxOf C8.CX0 X.prog X.w X.K X.mg X.base [y, n] x scope ad cdv X.A X.stack s H C8.E0).nox) (i := 1) (c := .ref (G.ga c))
      (tb := fun W D σ H => ∃ Ech : XK, (∀ cls d H', Ech cls d H' → W cls d σ H') ∧ σ[0]? = some (some (.ref f')) ∧ H c' = some (LamX.CodeO c' q) ∧ tl Ech H (fun _ H1 => D.nx σ H1))
      rfl rfl S.nd rfl hn ⟨hc, hd3, .inl er.m⟩ LamX.takes0 (fun W pn xe tk _ => ?_) (fun a oe cls d pn hz hf => pss_one (ps_ret (pe_xf er.x er.no hz hf (pe_var (i := 1) rfl (.inl hn) hd4 hd5)))))
    (pss_one (ps_ret pe_non)), ?_⟩
  · refine ⟨fun pins s' σ H' D I h' => ?_⟩
    obtain ⟨Ech, hW, h1, h2, h3⟩ := h'
    exact (pss_one (ps_expr (pos := p3) (act W pn xe Ech p1 p2 tk))).run pins s' σ H' D I ⟨h1, h2, hW, h3⟩
  · refine ⟨_, fun cls d H' q => q, rfl, hco, h _ _ (fun cls d H' q => ?_) (fun v H' q => ?_)⟩
    · obtain ⟨xn, dd, xi, he, ha, k⟩ := q
      obtain ⟨e1, e2⟩ := askB_inv he
      obtain ⟨dx, fs, v, e3, e4, e5, z⟩ := xc_fld xi e2
      have ec : cls = .ref (G.ga c) := by rw [← e1]; exact xi.1
      subst ec
      exact ⟨true, er.ex, fun _ a hna => ⟨.ref a, rfl, rfl, rfl, dx, fs, v, e3, e4, e5, k _ _ (ExtH.refl _) z⟩, fun e => by cases e⟩
    · obtain ⟨dv, dd, z, he, ha, k⟩ := q
      cases he
      exact k _ _ (ExtH.refl _) .non
end
end PP
set_option Elab.async false
set_option linter.all false
set_option maxRecDepth 100000
set_option maxHeartbeats 4000000
namespace LamX
open PySem PySem.Spec PyProof.Rows L2
theorem law_callTg {P : Program} {w : World} {K : PySem.W.Frag} {mg mb : Str → Option Value} {CX : CXT} {k : Nat} {fa a : Addr} {cs : List (Addr × Addr)} {fd : FuncData} {x : Str} {sp : Sp} {s₁ : Shared} {vs : List Value} {ns : List Int}
    (KXX : K.In s₁.heap) (hns : s₁.heap.Ns mainGlobals mg) (hb : s₁.heap.Ns builtinsNs mb) (hbb : ∀ x : Str, x ≠ "__name__" → mb x = bootBuiltins x) (hlim : s₁.heap.NoLimit) (hg : s₁.gens = #[])
    (hTt : ∀ p ∈ cs, s₁.heap.get? p.2 = some { cls := .none, data := .fields #[] }) (nTt : ∀ p ∈ cs, K.lookup p.2 = none) (C : ∀ p ∈ cs, PySem.W.CodeHd s₁.heap p.1 p.2)
    (hbm : ∃ (bm : Addr) (ob : Obj), mg "__builtins__" = some (.ref bm) ∧ bm ≠ builtinsNs ∧ s₁.heap.get? bm = some ob ∧ ob.cls = .type "module" ∧ ob.dict = some builtinsNs ∧ ob.data = .plain)
    (ha : s₁.heap.get? a = some { cls := .type "list", data := .seq vs.toArray }) (hi : IntsAre vs ns) (hln : ns.length ≤ sizeLine) (hrm : RoomG k callerA)
    (F : ∀ base : Heap, K.In base → base.Ns mainGlobals mg → (∀ p ∈ cs, TabB base mg p.1 p.2) → FnOg P w K mg base CX k fa fd [x] sp) (hbind : ∀ (s : Shared) (u : Value), BindsTo s fd ⟨[u], []⟩ [(x, u)])
    (hsp : ∀ H : Hp, (∀ p ∈ cs, H p.2 = some (.tbl #[])) → SqL K H a (ns.map V.int) → sp [.ref a] H (fun v _ => v = .bl true) fun _ _ _ => False)
    (hCX : ∀ H e sz, CX [] H s₁ (fun _ _ _ => False) e sz → False) :
    codeAny (model P w) callerA (.call (.ref fa) ⟨[.ref a], []⟩) (fun r sz => r = .ok (.ret (.bool true)) ∧ OldK s₁.heap sz.heap ∧ sz.os = s₁.os ∧ AllBare sz.gens) s₁ := by
  have rvl := vals_ints hi
  have lenW := hi.length
  have isTb : ∀ b : Addr, b ∈ cs.map (·.2) → s₁.heap.get? b = some { cls := .none, data := .fields #[] } := fun b hb => by
    obtain ⟨p, hp, e⟩ := List.mem_map.mp hb
    rw [← e]
    exact hTt p hp
  have aTb : a ∉ cs.map (·.2) := fun z => by
    have qy := isTb a z
    rw [ha] at qy
    have z' : Data.seq vs.toArray _ = Data.fields #[] := congrArg Obj.data (Option.some.inj qy)
    cases z'
  have memTb : ∀ p ∈ cs, p.2 ∈ cs.map (·.2) := fun p hp => List.mem_map.mpr ⟨p, hp, rfl⟩
  have cor : ∀ H : Hp, (∀ p ∈ cs, H p.2 = some (.tbl #[])) → (∀ b, H b = none ∨ b ∈ cs.map (·.2) ∨ ∃ o xs, H b = some (.frz o (.lst xs))) → SqL K H a (ns.map V.int) → HOk P w H s₁.heap → (∀ b, H b ≠ none → b = a ∨ b ∈ cs.map (·.2)) → (H a ≠ none → K.lookup a = none) →
      codeAny (model P w) callerA (.call (.ref fa) ⟨[.ref a], []⟩) (fun r sz => r = .ok (.ret (.bool true)) ∧ OldK s₁.heap sz.heap ∧ sz.os = s₁.os ∧ AllBare sz.gens) s₁ := by
    intro H hH hOo hSs hokk hAa hK
    have baseOf : ∀ {b : Addr} {o : Obj}, s₁.heap.get? b = some o → H b = none → (hidT s₁.heap H).get? b = some o := fun e n => hidT_get e n
    have noDd : ∀ {b : Addr} {o : Obj}, s₁.heap.get? b = some o → (∀ vs n, o.data ≠ .seq vs n) → o.data ≠ .fields #[] → H b = none := fun {b o} e h1 h2 => by
      cases qy : H b with
      | none => rfl
      | some u =>
        rcases hAa b (by rw [qy]; simp) with ez' | ez'
        · rw [ez', ha] at e
          cases e
          exact (h1 _ _ rfl).elim
        · rw [isTb b ez'] at e
          cases e
          exact (h2 rfl).elim
    have noB : ∀ {b : Addr} {o : Obj} {es : Array DictEntry} {ep : Nat}, s₁.heap.get? b = some o → o.data = .dict es ep → H b = none := fun {b o es ep} e d => by
      refine noDd e (fun vs n z => ?_) fun z => ?_
      · rw [d] at z
        cases z
      · rw [d] at z
        cases z
    have nsL : ∀ {b : Addr} {m : Str → Option Value}, s₁.heap.Ns b m → (hidT s₁.heap H).Ns b m := fun {b m} ⟨o, es, ep, e, d, r⟩ => ⟨o, es, ep, baseOf e (noB e d), d, r⟩
    have hKbb : K.In (hidT s₁.heap H) := fun b o e => baseOf (KXX b o e) (by
      cases qy : H b with
      | none => rfl
      | some u =>
        rcases hAa b (by rw [qy]; simp) with ez' | ez'
        · rw [ez'] at e qy
          rw [hK (by rw [qy]; simp)] at e
          cases e
        · obtain ⟨p, hp, ep⟩ := List.mem_map.mp ez'
          rw [← ep, nTt p hp] at e
          cases e)
    have hMd : L2.Mod K mg (hidT s₁.heap H) := ⟨hKbb, nsL hns, ⟨mb, nsL hb, hbb⟩, let ⟨mc, h1, h2⟩ := hlim; ⟨mc, nsL h1, h2⟩⟩
    have TBs : ∀ p ∈ cs, TabB (hidT s₁.heap H) mg p.1 p.2 := fun p hp => by
      have hTp := hTt p hp
      refine ⟨?_, ?_, fun z => ?_⟩
      · obtain ⟨o, uz, file, tf, flags, tg, inF, text, tt, e1, r1, r2, r3, r4, r5, r6, r7, r8, hne⟩ := C p hp
        refine ⟨o, uz, file, tf, flags, tg, inF, text, tt, baseOf e1 (noDd e1 (fun vs n z => ?_) fun z => ?_), r1, r2, r3, r4, r5, r6, r7, r8, hne⟩
        · rw [r2] at z
          cases z
        · rw [r2] at z
          cases z
          simp at r3
      · obtain ⟨bm, ob, b1, b2, b3, b4, b5, b6⟩ := hbm
        have nG : bm ≠ mainGlobals := fun qy => by
          obtain ⟨o, es, ep, e, hd, _⟩ := hns
          rw [qy, e] at b3
          cases b3
          rw [hd] at b6
          cases b6
        have nP : bm ≠ p.2 := fun qy => by
          rw [qy, hTp] at b3
          cases b3
          cases b6
        refine ⟨bm, ob, b1, b2, nG, nP, baseOf b3 (noDd b3 (fun vs n z => ?_) fun z => ?_), b4, b5, b6⟩
        · rw [b6] at z
          cases z
        · rw [b6] at z
          cases z
      · obtain ⟨o, es, ep, e, hd, _⟩ := hns
        rw [z, hTp] at e
        cases e
        cases hd
    have ez : Env0 P w K mg (hidT s₁.heap H) callerA [] s₁ H := ⟨rfl, hMd, fun b o e => of_hidT e, Nat.le_of_eq (hidT_size _ _), trivial, fun b hb => absurd (show b ∈ ([] : List Addr) from hb) (by simp), hokk, .of_eq hg⟩
    refine codeAny_mono ((F _ hKbb (nsL hns) TBs).run callerA [] s₁ H ⟨[.ref a], []⟩ [.ref a] [.ref a] _ _ hrm ez (hbind s₁ (.ref a)) (.cons rfl .nil) (hsp H hH hSs)) fun r sz h => ?_
    cases r with
    | error e => exact (hCX H e sz h).elim
    | ok flw =>
      cases flw with
      | next => exact False.elim h
      | brk => exact False.elim h
      | cont => exact False.elim h
      | ret u =>
        obtain ⟨v, H', os, bare, unn, hokz, r', qy⟩ := h
        have q' : v = .bl true := qy
        subst q'
        obtain rfl : u = Value.bool true := r'
        have keyy : ∀ b o, b ∉ cs.map (·.2) → s₁.heap.get? b = some o → sz.heap.get? b = some o := fun b o nb e => by
          cases qy : H b with
          | none => exact unn.keep b o e qy (by intro z; exact absurd (show b ∈ ([] : List Addr) from z) (by simp)) (by simp)
          | some u =>
            rcases hOo b with z | z | ⟨ob, xs, z⟩
            · rw [qy] at z; cases z
            · exact absurd z nb
            · have zy := unn.frzs b ob _ z
              obtain ⟨e1, _⟩ := hokk b _ z
              obtain ⟨e2, _⟩ := hokz b _ zy
              rw [e] at e1; cases e1
              exact e2
        have grwn : ∀ p ∈ cs, ∃ more : Array Value, sz.heap.get? p.2 = some { cls := .none, data := .fields more } := fun p hp => by
          obtain ⟨more, z⟩ := unn.tbls p.2 #[] (hH p hp)
          exact ⟨_, hokz p.2 _ z⟩
        refine ⟨rfl, ⟨fun b o e => ?_, fun b o e => ?_⟩, os, bare⟩
        · by_cases hb : b ∈ cs.map (·.2)
          · obtain ⟨p, hp, ep⟩ := List.mem_map.mp hb
            obtain ⟨more, hm⟩ := grwn p hp
            rw [← ep] at e ⊢
            rw [hTt p hp] at e
            cases e
            exact .inr (.inl ⟨((C p hp).tab (hTt p hp)).isCodeTable, rfl, #[], more, rfl, by rw [Array.empty_append]; exact hm⟩)
          · exact .inl (keyy b o hb e)
        · by_cases hb : b ∈ cs.map (·.2)
          · obtain ⟨p, hp, ep⟩ := List.mem_map.mp hb
            obtain ⟨more, hm⟩ := grwn p hp
            rw [← ep]
            exact ⟨_, hm⟩
          · exact ⟨o, keyy b o hb e⟩
  cases hkk : K.lookup a with
  | some o =>
    have e := KXX a o hkk
    rw [ha] at e
    cases e
    refine cor (fun b => if b ∈ cs.map (·.2) then some (.tbl #[]) else none) (fun p hp => if_pos (memTb p hp)) (fun b => ?_) (.inr ⟨_, vs.toArray, _, hkk, rfl, rfl, rfl, by rw [List.size_toArray, lenW]; exact hln, by simpa using rvl⟩) (fun b u z => ?_) (fun b z => ?_) fun z => absurd (show (if a ∈ cs.map (·.2) then some (HO.tbl #[]) else none) = none from if_neg aTb) z
    · by_cases hb : b ∈ cs.map (·.2)
      · exact .inr (.inl hb)
      · exact .inl (if_neg hb)
    · by_cases hb : b ∈ cs.map (·.2)
      · have z' := (if_pos hb).symm.trans z
        cases z'
        exact isTb b hb
      · have z' := (if_neg hb).symm.trans z
        cases z'
    · by_cases hb : b ∈ cs.map (·.2)
      · exact .inr hb
      · exact absurd (if_neg hb) z
  | none =>
    refine cor (fun b => if b = a then some (.frz { cls := .type "list", data := .seq vs.toArray } (.lst (ns.map V.int))) else if b ∈ cs.map (·.2) then some (.tbl #[]) else none) (fun p hp => (if_neg (show ¬ p.2 = a from fun z => aTb (by rw [← z]; exact memTb p hp))).trans (if_pos (memTb p hp))) (fun b => ?_)
      (.inl (.inr ⟨{ cls := .type "list", data := .seq vs.toArray }, if_pos rfl⟩)) (fun b u z => ?_) (fun b z => ?_) fun _ => hkk
    · by_cases hb : b = a
      · exact .inr (.inr ⟨_, _, if_pos hb⟩)
      · by_cases hb2 : b ∈ cs.map (·.2)
        · exact .inr (.inl hb2)
        · exact .inl ((if_neg hb).trans (if_neg hb2))
    · by_cases hb : b = a
      · have z' := (if_pos hb).symm.trans z
        cases z'
        rw [hb]
        exact ⟨ha, by rw [List.length_map]; exact hln, vs, _, rvl, ha⟩
      · have z1 := (if_neg hb).symm.trans z
        by_cases hb2 : b ∈ cs.map (·.2)
        · have z' := (if_pos hb2).symm.trans z1
          cases z'
          exact isTb b hb2
        · have z' := (if_neg hb2).symm.trans z1
          cases z'
    · by_cases hb : b = a
      · exact .inl hb
      · by_cases hb2 : b ∈ cs.map (·.2)
        · exact .inr hb2
        · exact absurd ((if_neg hb).trans (if_neg hb2)) z
/-- a law's end over a head by facts, with the script's bits, with tables -/
theorem walk_ofET {l : PySem.W.OpenLaw} {n k : Nat} {q : Program} {loose : List Str} {XP : (Str → Option Value) → Heap → Prop} {YP : World → Heap → Prop} {d : DefRec} {CX : CXT} {x : Str}
    (hn : l.most = some n) (hz : n ≤ sizeLine) (hdf : d.params.defaults = []) (hr : RoomG k callerA)
    (F : ∀ (w : World) (mg : Str → Option Value) (fa : Addr) (h : Heap), YP w h → h.Ns mainGlobals mg → mg d.name = some (.ref fa) →
      ∃ (K : PySem.W.Frag) (fd : FuncData) (cs : List (Addr × Addr)) (sp : Sp), K.In h ∧ (∀ p ∈ cs, h.get? p.2 = some { cls := .none, data := .fields #[] }) ∧ (∀ p ∈ cs, K.lookup p.2 = none) ∧ (∀ p ∈ cs, PySem.W.CodeHd h p.1 p.2) ∧ (∀ (s : Shared) (u : Value), BindsTo s fd ⟨[u], []⟩ [(x, u)]) ∧
        (∀ (H : Hp) (a : Addr) (ns : List Int), ns.length ≤ n → (∀ z ∈ ns, Builtin.Int.intBits z ≤ 1048576) → (∀ p ∈ cs, H p.2 = some (.tbl #[])) → SqL K H a (ns.map V.int) → sp [.ref a] H (fun v _ => v = .bl true) fun _ _ _ => False) ∧
        ∀ base : Heap, K.In base → base.Ns mainGlobals mg → (∀ p ∈ cs, TabB base mg p.1 p.2) → FnOg l.prog w K mg base CX k fa fd [x] sp)
    (hCX : ∀ (H : Hp) (s : Shared) (e : Value) (s' : Shared), CX [] H s (fun _ _ _ => False) e s' → False) :
    PySem.W.WalkO q loose XP YP l.row.toRowW d [] (fun f vs => PySem.call f vs) := by
  refine Att.attach_callB hn hdf fun w sa sb mg mb fa o pm cd doc a vs ns G Y ho hd hcd hmg hobj hints hlen hbits hg => ?_
  obtain ⟨K, fd, cs, sp, KX, hT, nT, C, hb, hsp, hF⟩ := F w mg fa _ Y G.T.g hmg
  exact law_callTg KX G.T.g G.T.b G.T.builtins G.T.nolimit hg hT nT C G.T.bmain hobj hints (Nat.le_trans hlen hz) hr hF hb (fun H hH hS => hsp H a ns hlen hbits hH hS) fun H e s' => hCX H sb e s'
end LamX
set_option Elab.async false
set_option linter.all false
set_option maxRecDepth 100000
set_option maxHeartbeats 4000000
namespace PP
open PySem L2
def smB (K : PySem.W.Frag) : Bool := match K.lookup sysModules with
  | some ⟨.type t, _, _, _⟩ => t == "dict"
  | _ => false
theorem smB_ok {K : PySem.W.Frag} (h : smB K = true) : ∃ o, K.lookup sysModules = some o ∧ o.cls = .type "dict" := by
  unfold smB at h
  split at h
  · rename_i t a b c e
    exact ⟨_, e, by rw [beq_iff_eq.mp h]⟩
  · cases h
def oexB (K : PySem.W.Frag) (C : Addr) : Bool := match K.lookup C with
  | some ⟨.type t, dd, .cls cd, sl⟩ => (match cd.mro, sl.toList with
    | .ref D :: bm, [k0, k1, k2, k3, some (.builtin n), k5] => decide (t = "type") && (decide (D = C) && (decide (n = "ValueError.__new__") && (!cd.hasDel && (cd.hasDict && HandSPX.refsVE bm))))
    | _, _ => false)
  | _ => false
theorem oexB_ok {K : PySem.W.Frag} {C : Addr} (h : oexB K C = true) : ∃ nm q N bs bm sn sub ab col dd k0 k1 k2 k3 k5, K.lookup C = some (excClassObj nm q C N bs bm true sn sub ab col dd k0 k1 k2 k3 k5 "ValueError.__new__") ∧ HandSPX.refsVE bm = true := by
  unfold oexB at h
  split at h
  · rename_i t dd cd sl ho
    split at h
    · rename_i D bm k0 k1 k2 k3 n k5 hm hs
      obtain ⟨h1, h⟩ := He.ba h
      obtain ⟨h2, h⟩ := He.ba h
      obtain ⟨h3, h⟩ := He.ba h
      obtain ⟨h4, h⟩ := He.ba h
      obtain ⟨h5, h6⟩ := He.ba h
      have e1 := of_decide_eq_true h1
      have e2 := of_decide_eq_true h2
      have e3 := of_decide_eq_true h3
      clear h1 h2 h3
      subst e1 e2 e3
      obtain ⟨nm, bs, mro, ns, qn, hd, sn, sub, ab, col, del⟩ := cd
      dsimp only at hm h4 h5
      subst hm h5
      have h4 : del = false := by cases del; rfl; cases h4
      subst h4
      obtain ⟨l⟩ := sl
      dsimp only at hs
      subst hs
      exact ⟨nm, qn, ns, bs, bm, sn, sub, ab, col, dd, k0, k1, k2, k3, k5, ho, h6⟩
    · cases h
  · cases h
def erScB (sc : Scope) (nm : Str) : Bool := decide (sc.kind = .function) && (!sc.isCoroutine && (!sc.isGenerator && ((sc.names.all fun x => !decide (x.2 = .cell)) && (decide (sc.names.lookup ("super" : Str) = some .globalImplicit) && (decide (sc.names.lookup ("__class__" : Str) = some .free) &&
  (decide (sc.names.lookup ("self" : Str) = some .local) && decide (sc.names.lookup nm = some .local)))))))
theorem erScB_ok {sc : Scope} {nm : Str} (h : erScB sc nm = true) : ErrS sc nm := by
  obtain ⟨h1, h⟩ := He.ba h
  obtain ⟨h2, h⟩ := He.ba h
  obtain ⟨h3, h⟩ := He.ba h
  obtain ⟨h4, h⟩ := He.ba h
  obtain ⟨h5, h⟩ := He.ba h
  obtain ⟨h6, h⟩ := He.ba h
  obtain ⟨h7, h8⟩ := He.ba h
  exact ⟨of_decide_eq_true h1, by simpa using h2, by simpa using h3, fun x hx e => (by
    have := List.all_eq_true.mp h4 x hx
    rw [decide_eq_true e] at this
    cases this), of_decide_eq_true h5, of_decide_eq_true h6, of_decide_eq_true h7, of_decide_eq_true h8⟩
def erBodyB (nm : Str) : FuncBody → Bool
  | .stmts [.Expr (.Call (.Attribute (.Call (.Name s1 _) [] [] _) s2 p3) [.Name s3 _] [] p5) _, .Assign [.Attribute (.Name s4 _) s5 _] (.Name s6 _) _] =>
    decide (s1 = "super") && (decide (s2 = "__init__") && (decide (s3 = nm) && (decide (s4 = "self") && (decide (s5 = nm) && (decide (s6 = nm) && (p3.endLine == p5.line))))))
  | _ => false
theorem erBodyB_ok {nm : Str} {b : FuncBody} (h : erBodyB nm b = true) : ∃ p1 p2 p3 p4 p5 p6 p7 p8 p9 p10, b = .stmts (erBody nm p1 p2 p3 p4 p5 p6 p7 p8 p9 p10) ∧ (p3.endLine == p5.line) = true := by
  unfold erBodyB at h
  split at h
  · obtain ⟨h1, h⟩ := He.ba h
    obtain ⟨h2, h⟩ := He.ba h
    obtain ⟨h3, h⟩ := He.ba h
    obtain ⟨h4, h⟩ := He.ba h
    obtain ⟨h5, h⟩ := He.ba h
    obtain ⟨h6, h7⟩ := He.ba h
    rw [of_decide_eq_true h1, of_decide_eq_true h2, of_decide_eq_true h3, of_decide_eq_true h4, of_decide_eq_true h5, of_decide_eq_true h6]
    exact ⟨_, _, _, _, _, _, _, _, _, _, rfl, h7⟩
  · cases h
def erParB (nm : Str) : Arguments → Bool
  | ⟨[], [⟨a, _, _⟩, ⟨b, _, _⟩], none, [], [], none, []⟩ => decide (a = "self") && decide (b = nm)
  | _ => false
theorem erParB_ok {nm : Str} {p : Arguments} (h : erParB nm p = true) : ∃ an1 an2 q1 q2, p = ⟨[], [⟨"self", an1, q1⟩, ⟨nm, an2, q2⟩], none, [], [], none, []⟩ := by
  unfold erParB at h
  split at h
  · obtain ⟨h1, h2⟩ := He.ba h
    rw [of_decide_eq_true h1, of_decide_eq_true h2]
    exact ⟨_, _, _, _, rfl⟩
  · cases h
def isNone : Value → Bool
  | .none => true
  | _ => false
theorem isNone_ok {v : Value} (h : isNone v = true) : v = .none := by cases v <;> first | rfl | cases h
def cellB (K : PySem.W.Frag) (cc C : Addr) : Bool := match K.lookup cc with
  | some ⟨_, _, .cell (some (.ref D)), _⟩ => decide (D = C)
  | _ => false
theorem cellB_ok {K : PySem.W.Frag} {cc C : Addr} (h : cellB K cc C = true) : ∃ cl cld csl, K.lookup cc = some ⟨cl, cld, .cell (some (.ref C)), csl⟩ := by
  unfold cellB at h
  split at h
  · rename_i a b D c e
    rw [of_decide_eq_true h] at e
    exact ⟨a, b, c, e⟩
  · cases h
def fileB (K : PySem.W.Frag) (cda : Addr) (file : Str) : Bool := match K.lookup cda with
  | some ⟨_, _, .fields vs, _⟩ => (match (vs[2]? : Option Value) with
    | some (.str g _) => file == g
    | _ => false)
  | _ => false
theorem fileB_ok {K : PySem.W.Frag} {cda : Addr} {file : Str} (h : fileB K cda file = true) : ∃ ccl cdd vs ccs g tf, K.lookup cda = some ⟨ccl, cdd, .fields vs, ccs⟩ ∧ vs[2]? = some (.str g tf) ∧ (file == g) = true := by
  unfold fileB at h
  split at h
  · rename_i a b vs c e
    split at h
    · rename_i g t e2
      exact ⟨a, b, vs, c, g, t, e, e2, h⟩
    · cases h
  · cases h
def erFnB (file : Str) (K : PySem.W.Frag) (C f : Addr) (nm : Str) : Bool := match K.lookup f with
  | some ⟨_, _, .func fd, _⟩ => (match fd.closure, fd.code with
    | [(cn, cc)], .ref cda => decide (cn = "__class__") && (cellB K cc C && (fileB K cda file && (PySem.W.codeIn K (.ref cda) fd.qualname && (erParB nm fd.params && (erBodyB nm fd.body && (erScB fd.scope nm && (decide (fd.globals = mainGlobals) && (decide (fd.builtins = builtinsNs) && isNone fd.defaults))))))))
    | _, _ => false)
  | _ => false
/-- an error class with a field -/
def exErr (file c nm : Str) (K : PySem.W.Frag) : Bool :=
  erFnB file K (He.ga K c) (He.ma K (He.ga K c) "__init__") nm && (oexB K (He.ga K c) && (He.eqO (PySem.W.findIn K (.ref (He.ga K c)) "__init__") (some (some (.ref (He.ma K (He.ga K c) "__init__")))) && (decide (PySem.W.typeIn K (.ref (He.ma K (He.ga K c) "__init__")) = some (.type "function")) &&
  (He.eqO (PySem.W.findIn K (.ref (He.ga K c)) "__setattr__") (some (some (.builtin "object.__setattr__"))) && (decide (PySem.W.subIn K (.ref (He.ga K c)) (.type "BaseException") = some true) && (decide (PySem.W.typeIn K (.ref (He.ga K c)) = some (.type "type")) && (PySem.W.keepIn K (.ref (He.ga K c)) &&
  (He.eqO (PySem.W.findIn K (.ref (He.ga K c)) nm) (some none) && (decide (PySem.W.mroIn K (He.ga K c) (.ref (He.ga K c)) = some true) && (decide (PySem.W.subIn K (.ref (He.ga K c)) (.type "ValueError") = some true) && (He.eqO (PySem.W.nsIn K cStatics "thirdparty.any") (some none) &&
  (He.eqO (PySem.W.ks_superIn K (He.ga K c) (He.ga K c) "__init__") (some (some (.builtin "ValueError.__init__"))) && (xfB K (He.ga K c) && decide (PySem.W.exmOne K (.ref (He.ga K c)) (.ref (He.ga K c)) = some true))))))))))))))
theorem exErr_ok {P : Program} {c nm : Str} {K : PySem.W.Frag} {mg : Str → Option Value} {G : Gc} (hG : G.ga = fun x => He.ga K x) (h : exErr P.main.file c nm K = true) (top : (P.main.scope.names.lookup ("super" : Str)).isSome = false) (ne : nm ≠ "self") (bnd : BndNm nm) (dbg : (nm == ("__debug__" : Str)) = false)
    (su : mg "super" = none) (m : mg c = some (.ref (He.ga K c))) : ErrE P K mg G c nm ∧ ErrF K mg G c nm := by
  have eg : G.ga c = He.ga K c := by rw [hG]
  obtain ⟨h1, h⟩ := He.ba h
  obtain ⟨h2, h⟩ := He.ba h
  obtain ⟨h3, h⟩ := He.ba h
  obtain ⟨h4, h⟩ := He.ba h
  obtain ⟨h5, h⟩ := He.ba h
  obtain ⟨h6, h⟩ := He.ba h
  obtain ⟨h7, h⟩ := He.ba h
  obtain ⟨h8, h⟩ := He.ba h
  obtain ⟨h9, h⟩ := He.ba h
  obtain ⟨h10, h⟩ := He.ba h
  obtain ⟨h11, h⟩ := He.ba h
  obtain ⟨h12, h⟩ := He.ba h
  obtain ⟨h13, h⟩ := He.ba h
  obtain ⟨h14, h15⟩ := He.ba h
  have m' : mg c = some (.ref (G.ga c)) := by rw [eg]; exact m
  refine ⟨⟨⟨He.ma K (He.ga K c) "__init__", ⟨?_, top, ne, bnd, dbg, ⟨?_, ?_, ?_, ?_, ?_⟩, ?_, ?_, ?_, He.eqO_ok h12, ?_⟩, ?_, ?_⟩, su, m'⟩, ⟨?_, ?_, ?_, m'⟩⟩
  all_goals try rw [eg]
  rotate_right
  · exact of_decide_eq_true h15
  all_goals first
    | exact oexB_ok h2 | exact He.eqO_ok h5 | exact of_decide_eq_true h6 | exact of_decide_eq_true h7 | exact h8 | exact He.eqO_ok h9 | exact of_decide_eq_true h10 | exact of_decide_eq_true h11 | exact He.eqO_ok h13 | exact He.eqO_ok h3 | exact of_decide_eq_true h4 | exact xfB_ok h14 | skip
  unfold erFnB at h1
  split at h1
  · rename_i oc od fd osl lk
    split at h1
    · rename_i cn cc cda hcl hco
      obtain ⟨g1, h1⟩ := He.ba h1
      obtain ⟨g2, h1⟩ := He.ba h1
      obtain ⟨g3, h1⟩ := He.ba h1
      obtain ⟨g4, h1⟩ := He.ba h1
      obtain ⟨g5, h1⟩ := He.ba h1
      obtain ⟨g6, h1⟩ := He.ba h1
      obtain ⟨g7, h1⟩ := He.ba h1
      obtain ⟨g8, h1⟩ := He.ba h1
      obtain ⟨g9, g10⟩ := He.ba h1
      obtain ⟨an1, an2, q1, q2, e5⟩ := erParB_ok g5
      obtain ⟨p1, p2, p3, p4, p5, p6, p7, p8, p9, p10, e6, hpos⟩ := erBodyB_ok g6
      obtain ⟨ccl, cdd, vs, ccs, gf, tf, k1, k2, k3⟩ := fileB_ok g3
      obtain ⟨n1, n2, n3, n4, n5, n6, n7, n8, n9, n10, n11, n12, n13, n14, n15⟩ := fd
      dsimp only at hcl hco e5 e6 g4 g7 g8 g9 g10
      have e1 := of_decide_eq_true g1
      have e8 := of_decide_eq_true g8
      have e9 := of_decide_eq_true g9
      have e10 := isNone_ok g10
      clear g1 g8 g9 g10
      subst hcl hco e5 e6 e1 e8 e9 e10
      exact ⟨oc, od, osl, n1, n2, an1, an2, q1, q2, n5, n9, n10, n11, n12, n14, cda, cc, p1, p2, p3, p4, p5, p6, p7, p8, p9, p10, lk, g4, hpos, erScB_ok g7, cellB_ok g2, ccl, cdd, vs, ccs, gf, tf, k1, k2, k3⟩
    · cases h1
  · cases h1
/-- the law's table -/
theorem _root_.L2.FunD.codeC {K : PySem.W.Frag} {x qual : Str} {params : Arguments} {body : List Stmt} {scope : Scope} {dvs : List V} {kws : List (Str × V)} {p : Str × Option Str} {fd : FuncData} (F : FunD K x qual params body scope dvs kws (He.fAd K p) fd) : fd.code = .ref (He.cT K p).1 := by
  obtain ⟨oc, od, dV, kV, doc, pm, an, cdv, ct, osl, rfl, lk, hcd, _, _⟩ := F.ex
  obtain ⟨c, rfl⟩ := He.codeIn_ref hcd
  have e := He.codeOf_eq lk rfl
  show Value.ref c = .ref (He.codeOf K p)
  rw [e]
end PP
namespace PP
open PySem L2
def asY (g : Addr → Option Obj) (n : Nat) : List Addr := sysModules :: cStatics :: He.asD g n
def frY (g : Addr → Option Obj) (n : Nat) : PySem.W.Frag := He.frT g (asY g n)
def obsY (n : Nat) (fa : List He.Fa) (fn : List He.DefD) (tf : List He.Defn) (ex : PySem.W.Frag → Bool) (g : Addr → Option Obj) : He.AlD × Bool := (He.obsD fa fn (frY g n), ex (frY g n) && He.tabsB g tf (frY g n))
def valY (fn : List He.DefD) : He.AlD × Bool := (He.valD fn, true)
structure SaysY (fa : List He.Fa) (fn : List He.DefD) (tf : List He.Defn) (ex : PySem.W.Frag → Bool) (h : Heap) (K : PySem.W.Frag) : Prop where
  d : He.SaysD fa fn K
  more : ex K = true
  hd : ∀ p ∈ tf, PySem.W.codeHdIn K (He.cT K p).1 (He.cT K p).2 = true
  out : ∀ p ∈ tf, K.lookup (He.cT K p).2 = none
  empty : ∀ p ∈ tf, h.get? (He.cT K p).2 = some { cls := .none, data := .fields #[] }
theorem saysY_of {n : Nat} {fa : List He.Fa} {fn : List He.DefD} {tf : List He.Defn} {ex : PySem.W.Frag → Bool} {h : Heap} (e : obsY n fa fn tf ex h.get? = valY fn) : SaysY fa fn tf ex h (frY h.get? n) := by
  have ea : He.obsD fa fn (frY h.get? n) = He.valD fn := congrArg Prod.fst e
  have eb : (ex (frY h.get? n) && He.tabsB h.get? tf (frY h.get? n)) = true := congrArg Prod.snd e
  obtain ⟨ha, hb⟩ := He.ba eb
  have at_ : ∀ p ∈ tf, PySem.W.codeHdIn (frY h.get? n) (He.cT (frY h.get? n) p).1 (He.cT (frY h.get? n) p).2 = true ∧ ∃ o, h.get? (He.cT (frY h.get? n) p).2 = some o ∧ He.emptyTab o = true := fun p hp => by
    obtain ⟨hc, hd⟩ := He.ba (List.all_eq_true.mp hb p hp)
    refine ⟨hc, ?_⟩
    cases z : h.get? (He.cT (frY h.get? n) p).2 with
    | none => rw [z] at hd; cases hd
    | some o => rw [z] at hd; exact ⟨o, rfl, hd⟩
  refine ⟨ea, ha, fun p hp => (at_ p hp).1, fun p hp => ?_, fun p hp => ?_⟩
  · obtain ⟨_, o, z, y⟩ := at_ p hp
    exact He.frT_none z y
  · obtain ⟨_, o, z, y⟩ := at_ p hp
    rw [z, He.emptyTab_eq y]
def hookY (n : Nat) (fa : List He.Fa) (fn : List He.DefD) (tf : List He.Defn) (ex : PySem.W.Frag → Bool) : PySem.W.Hook where
  α := He.AlD × Bool
  obs := fun s => obsY n fa fn tf ex s.heap.get?
  val := fun _ => valY fn
  says := fun _ h => ∃ K : PySem.W.Frag, K.In h ∧ SaysY fa fn tf ex h K
  of := fun _ _ e => ⟨_, He.frT_in, saysY_of e⟩
  keeps := fun _ _ _ ⟨K, hK, c⟩ k => ⟨K, PySem.W.Frag.In.keeps hK k, ⟨c.d, c.more, c.hd, c.out, fun p hp => k _ _ (c.empty p hp)⟩⟩
theorem obsY_eq {n : Nat} {fa : List He.Fa} {fn : List He.DefD} {tf : List He.Defn} {ex : PySem.W.Frag → Bool} {g : Addr → Option Obj} {s : Shared} (h : ∀ a, g a = s.heap.get? a) : obsY n fa fn tf ex g = (hookY n fa fn tf ex).obs s := by
  rw [show g = s.heap.get? from funext h]; rfl
theorem codeHd_all {K : PySem.W.Frag} {h : Heap} {tf : List He.Defn} (X : K.In h) (c : ∀ p ∈ tf, PySem.W.codeHdIn K (He.cT K p).1 (He.cT K p).2 = true) : ∀ p ∈ tf.map (He.cT K), PySem.W.CodeHd h p.1 p.2 := fun p hp => by
  obtain ⟨q, hq, rfl⟩ := List.mem_map.mp hp
  exact PySem.W.codeHd_of_K X (c q hq)
end PP
set_option Elab.async false
set_option linter.all false
set_option maxRecDepth 100000
set_option maxHeartbeats 0
namespace PP
open PySem L2
def top (i : Nat) : Stmt := PySem.Challenge.pw_giftbars_k03_rows_refused.main.body.getD i (.Pass ⟨0, 0, 0, 0⟩)
abbrev Rw : PySem.W.OpenRow := PySem.W.OpenLaw.row PySem.Challenge.rw_giftbars_k03_rows_refused
def df (x : Str) (i : Nat) (ds : List He.Dv := []) : He.DefD := ⟨(x, none), x, x, defArgs (top i), defBody (top i), defScope (top i), ds, []⟩
def dm (c m q : Str) (i j : Nat) (ds : List He.Dv := []) : He.DefD := ⟨(c, some m), m, q, defArgs (inClass (top i) j), defBody (inClass (top i) j), defScope (inClass (top i) j), ds, []⟩
def fn : List He.DefD := [df "is_integer" 4, df "is_count" 7, df "is_list" 5, df "is_mark" 6, df "deed_of" 13, df "checked_row" 14, dm "Account" "__init__" "Account.__init__" 15 0 [.adr (He.dflAt ("Account", some "__init__") 0)], df "_law_draw" 18, df "_law_is_count" 26, df "_law_is_mark" 25, df "_law_is_deed" 27, df "_law_first_bad" 28, df "_law_pick" 19, df "_law_odd" 29, df "_law_fresh" 21, df "_law_pool" 22, df "_law_between" 23, df "_law_row" 24, df "_law_same" 20, dm "Account" "__eq__" "Account.__eq__" 15 4, dm "Account" "__len__" "Account.__len__" 15 2, dm "Account" "row" "Account.row" 15 1, dm "Account" "further" "Account.further" 15 5, df "_law_index" 30, df "law" 31]
def fa : List He.Fa := [.glo "is_integer", .glo "is_count", .glo "is_list", .glo "is_mark", .glo "deed_of", .glo "checked_row", .glo "_law_draw", .glo "_law_is_count", .glo "_law_is_mark", .glo "_law_is_deed", .glo "_law_first_bad", .glo "_law_pick", .glo "_law_odd", .glo "_law_fresh", .glo "_law_pool", .glo "_law_between", .glo "_law_row", .glo "_law_same", .glo "_law_index", .glo "law", .glo "Account", .cls "Account", .noat "Account" "deeds", .noat "Account" "given", .noat "Account" "since", .mkr "Account", .free "tuple", .free "int", .free "list", .free "bool", .free "isinstance", .free "all", .free "len", .free "str", .str "LETTERS" "abcdefghijklmnopqrstuvwxyz", .int "LONGEST" 8, .free "enumerate", .free "range", .free "repr", .meth "Account" "row", .meth "Account" "__eq__", .meth "Account" "__len__", .meth "Account" "further", .free "super", .glo "BadDeed"]
abbrev tf : List He.Defn := [("law", none)]
def exK (K : PySem.W.Frag) : Bool := smB K && (exCls "Account" K && (exErr PySem.Challenge.pw_giftbars_k03_rows_refused.main.file "BadDeed" "index" K && (true)))
abbrev hk : PySem.W.Hook := hookY 5 fa fn tf exK
def ob (s : PySem.W.SharedT) : He.AlD × Bool := obsY 5 fa fn tf exK (HandSHeadRun.getT s)
theorem ob_eq (s : PySem.W.SharedT) : ob s = hk.obs s.abs := obsY_eq (HandSHeadRun.getT_eq s)
def loose0 : List Str := ["_wall", "__name__", "LETTERS", "LONGEST", "is_integer", "is_list", "is_mark", "is_count", "GiftError", "BadDeed", "NoMark", "deed_of", "checked_row", "Account", "check_mark", "_law_draw", "_law_pick", "_law_same", "_law_fresh", "_law_pool"]
def loose1 : List Str := ["_law_between", "_law_row", "_law_is_mark", "_law_is_count", "_law_is_deed", "_law_first_bad", "_law_odd", "_law_index"]
def loose : List Str := loose0 ++ loose1
theorem run (w : World) : HandSHeadRun.RunEq Rw (PySem.W.view Rw.prog [31]) hk ob 4000 loose w := by
  intro os
  kernel_rfl
end PP
set_option Elab.async false
set_option linter.all false
set_option maxRecDepth 100000
set_option maxHeartbeats 4000000
namespace PySem.SeqAt
open MeetsSeq
end PySem.SeqAt
namespace PP
open PySem L2
section
variable {X : Cx} {F : Fm} {E : XC} {Γ : Env} {pos : Pos}
theorem FzL.rep {G : Gc} {A : AS} {H : Hp} {vs : List V} {ds : List D} (h : FzL G A H vs ds) : ∀ n, FzL G A H (List.replicate n vs).flatten (List.replicate n ds).flatten
  | 0 => .nil
  | n + 1 => by
    rw [List.replicate_succ, List.replicate_succ, List.flatten_cons, List.flatten_cons]
    exact h.append (FzL.rep h n)
theorem ops_rep : OpS F E (qBin .rep) rRep := fun Z ow σ H s K x y vx vy Q R hx hy w k => by
  cases x <;> try exact w.elim
  cases y <;> try exact w.elim
  rename_i xs j
  obtain ⟨⟨h1, h2, h3⟩, w⟩ := w
  obtain ⟨a, vs, rfl, e, l⟩ := hx
  cases view_int hy
  refine ⟨a, j, vs, rfl, rfl, e, h1, h2, by rw [l.length]; exact h3, fun p hp => ?_⟩
  exact k _ _ _ _ _ w (rr_newL R hp (l.rep _)) (Eff.new hp)
/-- [..] * n -/
theorem sx_rep (g : Gd X F E) {a b : Expr} {ia ib : Ex} (ha : VX X F E Γ a ia) (hb : VX X F E Γ b ib) : SX X F E Γ (.BinOp a .Mult b pos) (.bin .rep ia ib) := PEimp (pe_op op_rep ha hb) fun _ _ _ h => lr_bin ops_rep h
/-- {} -/
theorem sx_dct0 : SX X F E Γ (.Dict [] [] pos) (.dct [] []) := PEimp pe_dnewK fun σ H Q h => by
  obtain ⟨Z, ow, s, K, R, hf, hq⟩ := h
  intro p hp
  obtain ⟨nm, n0, nz⟩ := R.new0 hp
  exact hq (.nd []) s _ _ ow hf ⟨p, [], rfl, hp, fun z => nz (.inl z), nm, n0, R.alloc hp, upd_same, rfl, .nil⟩ (Eff.new hp)
end
end PP
set_option Elab.async false
set_option linter.all false
set_option maxRecDepth 100000
set_option maxHeartbeats 4000000
namespace PP
open PySem L2
abbrev N_drawZ (z : Str) : List Str := ["_law_stream", "_law_many", "_law_digit", z]
/-- the text of a draw, whatever its last own name -/
theorem draw_okZ {P : Program} {w : World} {K : PySem.W.Frag} {mg : Str → Option Value} {base : Heap} {params : Arguments} {body : List Stmt} {scope : Scope} {kws : List (Str × V)} {f : Addr} {fd : FuncData} {G : Gc} {z : Str}
    (F : FunD K "_law_draw" "_law_draw" params body scope [] kws f fd) (S : FnScope (N_drawZ z) ["_law_stream", "_law_many"] scope)
    (hd : ∀ (cdv : Value) (A : Around) (outer : List PySem.Env) (s : Shared) (H : Hp) (E : XK), RoomG 0 (A.deeper (PyProof.Rows.envOfC "_law_draw" scope s.heap.objs.size f cdv)) → PSs (cxOf CX0 P w K mg base (N_drawZ z) "_law_draw" scope f cdv A outer s H E).nox body (t_draw K)) :
    FnOg P w K mg base CX0 1 f fd ["_law_stream", "_law_many"] (liftSp G 2 conDraw) := by
  refine F.okg S (fun vs H Q E h => h.1) fun cdv A outer s H vs Q E hr h => ?_
  obtain ⟨hl, T, A', as, c, K', _, hs, h1, h2, hA, ha, ⟨m, rfl, m1, m2, hc, hk⟩, kq, _⟩ := h
  refine ⟨_, PSs.nox (hd cdv A outer s H E hr), ?_⟩
  cases ha with
  | st ha =>
    cases ha with
    | d z ha =>
      cases ha
      cases z
      exact draw_run (A := A') hs m1 m2 hc fun H' kp st => kq _ _ _ H' hk kp st (.int _)
end PP
set_option Elab.async false
set_option linter.all false
set_option maxRecDepth 100000
set_option maxHeartbeats 2000000
namespace PP
open PySem L2
def N_is_integer : List Str := ["thing"]
def c_is_integer : List Sx := [(.ret (.and (.isi (.var 0) [.b "int"]) (.not (.isi (.var 0) [.b "bool"]))))]
def N_is_list : List Str := ["thing"]
def c_is_list : List Sx := [(.ret (.isi (.var 0) [.b "list", .b "tuple"]))]
def N_is_mark : List Str := ["thing", "sign"]
def c_is_mark : List Sx := [(.ret (.and (.isi (.var 0) [.b "str"]) (.and (.cmp2 .le .le (.int 1) (.bi .len [(.var 0)]) (.cst "LONGEST")) (.bi .all [(.lc (.var 0) (.one 1) [] (.cmp .isin (.var 1) (.cst "LETTERS")))]))))]
def N_is_count : List Str := ["thing"]
def c_is_count : List Sx := [(.ret (.and (.call "is_integer" [(.var 0)] 0) (.cmp .gt (.var 0) (.int 0))))]
def N_deed_of : List Str := ["thing", "word"]
def c_deed_of : List Sx := [(.ite (.or (.not (.call "is_list" [(.var 0)] 0)) (.or (.cmp .eq (.bi .len [(.var 0)]) (.int 0)) (.not (.isi (.idx (.var 0) (.int 0)) [.b "str"])))) [(.ret .non)] []), (.asg 1 (.idx (.var 0) (.int 0))), (.ite (.and (.cmp .eq (.var 1) (.str "open")) (.and (.cmp .eq (.bi .len [(.var 0)]) (.int 3)) (.and (.call "is_mark" [(.idx (.var 0) (.int 1))] 0) (.call "is_count" [(.idx (.var 0) (.int 2))] 0)))) [(.ret (.bi .tuple [(.var 0)]))] []), (.ite (.and (.cmp .isin (.var 1) (.tup [(.str "days"), (.str "pause")])) (.and (.cmp .eq (.bi .len [(.var 0)]) (.int 2)) (.call "is_count" [(.idx (.var 0) (.int 1))] 0))) [(.ret (.bi .tuple [(.var 0)]))] []), (.ite (.and (.cmp .eq (.var 1) (.str "back")) (.and (.cmp .eq (.bi .len [(.var 0)]) (.int 2)) (.call "is_mark" [(.idx (.var 0) (.int 1))] 0))) [(.ret (.bi .tuple [(.var 0)]))] []), (.ret .non)]
def N__law_pick : List Str := ["_law_stream", "_law_things"]
def c__law_pick : List Sx := [(.ret (.idx (.var 1) (.call "_law_draw" [(.var 0), (.bi .len [(.var 1)])] 0)))]
def N__law_fresh : List Str := ["_law_stream", "_law_known", "_law_name", "_law_k", "_law_letters", "_law_words", "_law_spare"]
def c__law_fresh : List Sx := [(.asgT (.tup [(.one 4), (.one 5)]) (.tup [(.str "abcdefghijklmnopqrstuvwxyz"), (.lst [(.str "open"), (.str "days"), (.str "pause"), (.str "back"), (.str "most"), (.str "bar"), (.str "set")])])), (.asg 2 (.join (.str "") (.lc (.bi .range [(.idx (.lst [(.int 1), (.int 1), (.int 1), (.int 2), (.int 4), (.int 8)]) (.call "_law_draw" [(.var 0), (.int 6)] 0))]) (.one 3) [] (.idx (.var 4) (.call "_law_draw" [(.var 0), (.int 26)] 0))))), (.asg 2 (.ite (.cmp .eq (.call "_law_draw" [(.var 0), (.int 9)] 0) (.int 0)) (.call "_law_pick" [(.var 0), (.var 5)] 0) (.var 2))), (.for_ (.one 3) (.bi .range [(.bin .mul (.int 676) (.bi .int [(.cmp .isin (.var 2) (.var 1))]))]) [(.asg 6 (.bin .add (.bin .add (.str "q") (.idx (.var 4) (.bin .fdiv (.var 3) (.int 26)))) (.idx (.var 4) (.bin .mod (.var 3) (.int 26))))), (.ite (.cmp .notin (.var 6) (.var 1)) [(.ret (.var 6))] [])]), (.ret (.var 2))]
def N__law_pool : List Str := ["_law_stream", "_law_many", "_law_found", "_law_k"]
def c__law_pool : List Sx := [(.asg 2 (.lst [])), (.for_ (.one 3) (.bi .range [(.var 1)]) [(.app 2 (.call "_law_fresh" [(.var 0), (.var 2)] 0))]), (.ret (.var 2))]
def N__law_between : List Str := ["_law_stream", "_law_begun", "_law_wide", "_law_found", "_law_k", "_law_way"]
def c__law_between : List Sx := [(.asg 3 (.lst [])), (.for_ (.one 4) (.bi .range [(.call "_law_draw" [(.var 0), (.int 3)] 0)]) [(.asg 5 (.call "_law_draw" [(.var 0), (.int 10)] 0)), (.ite (.cmp .lt (.var 5) (.int 6)) [(.app 3 (.tup [(.str "days"), (.bin .add (.int 1) (.call "_law_draw" [(.var 0), (.var 2)] 0))]))] [(.ite (.cmp .lt (.var 5) (.int 8)) [(.app 3 (.tup [(.str "pause"), (.bin .add (.int 1) (.call "_law_draw" [(.var 0), (.int 9)] 0))]))] [(.ite (.and (.cmp .eq (.var 5) (.int 8)) (.cmp .ne (.var 1) (.lst []))) [(.app 3 (.tup [(.str "back"), (.pop 1 (some (.call "_law_draw" [(.var 0), (.bi .len [(.var 1)])] 0)))]))] [])])])]), (.ret (.var 3))]
def N__law_row : List Str := ["_law_stream", "_law_pool_here", "_law_wide", "_law_mark", "_law_row_here", "_law_begun"]
def c__law_row : List Sx := [(.par [4, 5] [(.lst []), (.lst [])]), (.for_ (.one 3) (.var 1) [(.ext 4 (.io "_law_between" [(.var 0), (.var 5), (.var 2)])), (.app 4 (.tup [(.str "open"), (.var 3), (.bin .add (.int 1) (.call "_law_draw" [(.var 0), (.var 2)] 0))])), (.app 5 (.var 3))]), (.ret (.bin .add (.var 4) (.io "_law_between" [(.var 0), (.var 5), (.var 2)])))]
end PP
set_option Elab.async false
set_option linter.all false
set_option maxRecDepth 100000
set_option maxHeartbeats 2000000
namespace PP
open PySem L2
def isListD : D → Bool
  | .lst _ => true
  | .tup _ => true
  | .kt _ => true
  | _ => false
def conIsInt : Con := fun as c K _ => ∃ d, as = [some d] ∧ bltTy (tyD d) = true ∧ K (.fz (.bl (isIntD d))) c
def conIsList : Con := fun as c K _ => ∃ d, as = [some d] ∧ bltTy (tyD d) = true ∧ K (.fz (.bl (isListD d))) c
theorem p_is_integer {Γ : Env} : Impl Γ 1 conIsInt c_is_integer := by
  intro as c K h
  obtain ⟨d, rfl, hd, hk⟩ := h
  have hb : bltTy (tyD d) = true ∧ [Ty.b "int"].all bltTy = true := ⟨hd, rfl⟩
  have hb2 : bltTy (tyD d) = true ∧ [Ty.b "bool"].all bltTy = true := ⟨hd, rfl⟩
  cases d with
  | int i => exact And.intro hb (And.intro hb2 (And.intro trivial hk))
  | bl b => exact And.intro hb (And.intro hb2 (And.intro trivial hk))
  | _ => first | exact And.intro hb hk | exact absurd hd (by decide)
theorem p_is_list {Γ : Env} : Impl Γ 1 conIsList c_is_list := by
  intro as c K h
  obtain ⟨d, rfl, hd, hk⟩ := h
  cases d with
  | obj c fs => cases hd
  | dctT _ => cases hd
  | _ => exact And.intro ⟨hd, rfl⟩ hk
end PP
set_option Elab.async false
set_option linter.all false
set_option maxRecDepth 100000
set_option maxHeartbeats 2000000
namespace PP
open PySem L2
theorem lc_ind {α : Type} {tg : Tg} {test : M Bool} {elt : M α} {k : List α → S → Prop} {e : XC} (W : List D → List α → S → Prop) (h0 : ∀ acc s, W [] acc s → k acc s)
    (hs : ∀ x xs acc s, W (x :: xs) acc s → (∀ acc' s', W xs acc' s' → lcGo tg test elt xs acc' s' k e) → lcGo tg test elt (x :: xs) acc s k e) : ∀ xs acc s, W xs acc s → lcGo tg test elt xs acc s k e
  | [], acc, s, h => h0 acc s h
  | x :: xs, acc, s, h => hs x xs acc s h (lc_ind W h0 hs xs)
def isCountD : D → Bool
  | .int i => decide (0 < i)
  | _ => false
def conIsCount : Con := fun as c K _ => ∃ d, as = [some d] ∧ bltTy (tyD d) = true ∧ K (.fz (.bl (isCountD d))) c
theorem p_is_count {Γ : Env} (h1 : Γ.fn "is_integer" = some (.pl conIsInt true [])) : Impl Γ 1 conIsCount c_is_count := by
  intro as c K h
  obtain ⟨d, rfl, hd, hk⟩ := h
  conv => whnf
  rw [h1]
  conv => whnf
  refine ⟨d, rfl, hd, fun _ => rfl, ?_⟩
  cases d with
  | int i => exact hk
  | _ => exact hk
def inLet (c : Nat) : Bool := decide (c ∈ letters.cps.toList)
def isMarkD : D → Bool
  | .str x => decide (1 ≤ x.length) && (decide (x.length ≤ 8) && x.cps.toList.all inLet)
  | _ => false
def conIsMark : Con := fun as c K _ => ∃ d, as = [some d] ∧ bltTy (tyD d) = true ∧ (∀ x, d = .str x → x.length ≤ sizeLine) ∧ K (.fz (.bl (isMarkD d))) c
theorem asBls_map : ∀ l : List Bool, asBls (l.map D.bl) = some l
  | [] => rfl
  | b :: l => by rw [List.map_cons, asBls, asBls_map l]; rfl
theorem p_is_mark {Γ : Env} (h1 : Γ.cst "LONGEST" = some (.int 8)) (h2 : Γ.cst "LETTERS" = some (.str letters)) : Impl Γ 2 conIsMark c_is_mark := by
  intro as c K h
  obtain ⟨d, rfl, hd, hl, hk⟩ := h
  cases d with
  | str x =>
    have hx := hl x rfl
    refine And.intro ⟨hd, rfl⟩ ?_
    conv => whnf
    refine And.intro hx ?_
    conv => whnf
    have e1 : decide ((1 : Int) ≤ (x.length : Int)) = decide (1 ≤ x.length) := decide_eq_decide.mpr (by omega)
    have e2 : decide ((x.length : Int) ≤ 8) = decide (x.length ≤ 8) := decide_eq_decide.mpr (by omega)
    rw [e1]
    cases q1 : decide (1 ≤ x.length) with
    | false => simp only [isMarkD, q1, Bool.false_and] at hk; exact hk
    | true =>
      conv => whnf
      rw [h1]
      conv => whnf
      rw [e2]
      cases q2 : decide (x.length ≤ 8) with
      | false => simp only [isMarkD, q1, q2, Bool.false_and, Bool.and_false] at hk; exact hk
      | true =>
        refine And.intro hx ?_
        simp only [isMarkD, q1, q2, Bool.true_and] at hk
        refine lc_ind (α := D) (W := fun xs acc s => ∃ (l1 l2 : List Nat) (o : Option P), xs = l2.map (fun c => D.str ⟨#[c]⟩) ∧ acc = (l1.map inLet).map D.bl ∧ l1 ++ l2 = x.cps.toList ∧ isIo o = false ∧ s = ⟨[some (.fz (.str x)), o], c⟩) (fun acc s h => ?_) (fun y xs acc s h ih => ?_) _ _ _ ⟨[], x.cps.toList, none, rfl, rfl, rfl, rfl, rfl⟩
        · obtain ⟨l1, l2, o, e, rfl, e3, ho, rfl⟩ := h
          cases l2 with
          | cons _ _ => cases e
          | nil =>
            rw [List.append_nil] at e3
            subst e3
            refine And.intro ?_ ?_
            · show (!isIo o && true) = true
              rw [ho]; rfl
            conv => whnf
            rw [asBls_map]
            conv => whnf
            have e4 : (x.cps.toList.map inLet).all id = x.cps.toList.all inLet := by rw [List.all_map]; rfl
            rw [e4]
            exact hk
        · obtain ⟨l1, l2, o, e, rfl, e3, ho, rfl⟩ := h
          cases l2 with
          | nil => cases e
          | cons z l2 =>
            cases e
            refine And.intro (show (!isIo o && true) = true by rw [ho]; rfl) ?_
            refine And.intro rfl ?_
            conv => whnf
            rw [h2]
            conv => whnf
            exact ih _ _ ⟨l1 ++ [z], l2, some (.fz (.str ⟨#[z]⟩)), rfl, by rw [List.map_append, List.map_append]; rfl, by rw [← e3]; simp, rfl, rfl⟩
  | obj c fs => cases hd
  | dctT _ => cases hd
  | _ => exact And.intro ⟨hd, rfl⟩ hk
end PP
set_option Elab.async false
set_option linter.all false
set_option maxRecDepth 100000
set_option maxHeartbeats 2000000
namespace PP
open PySem L2
def acOf (row : List Deed) : Ac := ac0.run row
def marksOf (row : List Deed) : List Str := (acOf row).given.map (·.1)
def lookI (l : List (Str × Int)) (m : Str) : Option Int := (l.find? fun p => decide (p.1 = m)).map (·.2)
theorem inD_strs (m : Str) (ms : List Str) : inD (.str m) (ms.map D.str) = decide (m ∈ ms) := by
  unfold inD
  induction ms with
  | nil => rfl
  | cons x ms ih =>
    rw [List.map_cons, List.any_cons, ih]
    by_cases e : x = m
    · subst e
      have q : eqV (toV (.str x)) (toV (.str x)) = true := by simp [toV, eqV]
      rw [q]; simp
    · have q : eqV (toV (.str x)) (toV (.str m)) = false := by simp [toV, eqV, e]
      rw [q]
      simp
      exact fun h => absurd h.symm e
theorem strs_scal (ms : List Str) : (ms.map D.str).all isScalar = true := by
  rw [List.all_map, List.all_eq_true]
  intro x _; rfl
end PP
set_option Elab.async false
set_option linter.all false
set_option maxRecDepth 100000
set_option maxHeartbeats 2000000
namespace PP
open PySem L2
/-- total and greatest, from the last opened one back -/
def lft (P : Str → Bool) : List (Str × Int × Int) → Int × Int
  | [] => (0, 0)
  | z :: zs => if P z.1 then ((lft P zs).1 + z.2.1, max (lft P zs).2 ((lft P zs).1 + z.2.1 - z.2.2)) else lft P zs
def Ac.zs (a : Ac) : List (Str × Int × Int) := List.zipWith (fun p q => (p.1, p.2, q.2)) a.given a.since
theorem zip_given : ∀ {g s : List (Str × Int)}, s.map (·.1) = g.map (·.1) → (List.zipWith (fun (p q : Str × Int) => (p.1, p.2, q.2)) g s).map (fun z => (z.1, z.2.1)) = g ∧ (List.zipWith (fun (p q : Str × Int) => (p.1, p.2, q.2)) g s).map (fun z => (z.1, z.2.2)) = s
  | [], [], _ => ⟨rfl, rfl⟩
  | [], _ :: _, h => nomatch h
  | _ :: _, [], h => nomatch h
  | p :: g, q :: s, h => by
    rw [List.map_cons, List.map_cons, List.cons.injEq] at h
    obtain ⟨a, b⟩ := zip_given h.2
    rw [List.zipWith_cons_cons, List.map_cons, List.map_cons, a, b]
    refine ⟨rfl, ?_⟩
    show (p.1, q.2) :: s = q :: s
    rw [← h.1]
theorem lookI_mem {l : List (Str × Int)} {m : Str} {n : Int} (nd : (l.map (·.1)).Nodup) (h : (m, n) ∈ l) : lookI l m = some n := by
  induction l with
  | nil => cases h
  | cons p l ih =>
    unfold lookI
    rw [List.map_cons, List.nodup_cons] at nd
    rcases List.mem_cons.mp h with e | h
    · subst e; simp
    · have e : ¬ p.1 = m := fun e => nd.1 (by rw [e]; exact List.mem_map.mpr ⟨_, h, rfl⟩)
      rw [List.find?_cons_of_neg (by simpa using e)]
      exact ih nd.2 h
def leftV (row : List Deed) (ms : List Str) : Int := (lft (fun m => decide (m ∈ ms)) (acOf row).zs).2
end PP
set_option Elab.async false
set_option linter.all false
set_option maxRecDepth 100000
set_option maxHeartbeats 2000000
namespace PP
open PySem L2
theorem isMark_ok {m : Str} (h : MarkOk m) : isMarkD (.str m) = true := by
  obtain ⟨h1, h2, h3⟩ := h
  show (decide (1 ≤ m.length) && (decide (m.length ≤ 8) && m.cps.toList.all inLet)) = true
  rw [decide_eq_true h1, decide_eq_true h2, Bool.true_and, Bool.true_and, List.all_eq_true]
  exact fun c hc => decide_eq_true (h3 c hc)
theorem mark_size {m : Str} (h : MarkOk m) : m.length ≤ sizeLine := Nat.le_trans h.2.1 (by decide)
end PP
set_option Elab.async false
set_option linter.all false
set_option maxRecDepth 100000
set_option maxHeartbeats 4000000
namespace PP
open PySem L2
theorem asStrs_map : ∀ l : List Str, asStrs (l.map D.str) = some l
  | [] => rfl
  | b :: l => by rw [List.map_cons, asStrs, asStrs_map l]; rfl
theorem run_snoc (a : Ac) (r : List Deed) (d : Deed) : a.run (r ++ [d]) = (a.run r).step d := by
  induction r generalizing a with
  | nil => rfl
  | cons x r ih => exact ih (a.step x)
theorem run_good {a : Ac} (g : a.good) : ∀ {r : List Deed}, a.oks r → (a.run r).good
  | [], _ => g
  | d :: r, h => run_good (g.step h.1) h.2
theorem vd_app : ∀ {r1 r2 : List Deed} {op : List Str} {a : Ac}, vd op a (r1 ++ r2) → vd op a r1 ∧ vd (op ++ r1.flatMap opens) (a.run r1) r2
  | [], r2, op, a, h => ⟨trivial, by simpa [Ac.run] using h⟩
  | d :: r1, r2, op, a, h => by
    obtain ⟨h1, h2, h3⟩ := h
    obtain ⟨q1, q2⟩ := vd_app h3
    exact ⟨⟨h1, h2, q1⟩, by rw [List.flatMap_cons, ← List.append_assoc]; exact q2⟩
theorem ValidRow.good {row : List Deed} (h : ValidRow row) : (acOf row).good := run_good good0 (vd_oks h.vd)
end PP
set_option Elab.async false
set_option linter.all false
set_option maxRecDepth 100000
set_option maxHeartbeats 4000000
namespace PP
open PySem L2
/-- a draw: some number below m -/
def conDrawN : Con := fun as c K _ => ∃ m : Int, as = [none, some (.int m)] ∧ 1 ≤ m ∧ m ≤ 10 ^ 100 ∧ c.c < 1000000 ∧ ∀ (i : Int) (c' : Stm), 0 ≤ i → i < m → c'.c = c.c + 1 → K (.fz (.int i)) c'
theorem drawN_imp {as : List (Option D)} {c : Stm} {K : R → Stm → Prop} {e : XCc} (h : conDrawN as c K e) : conDraw as c K e := by
  obtain ⟨m, h0, h1, h2, h3, h⟩ := h
  exact ⟨m, h0, h1, h2, h3, h _ _ (draw_lo c h1) (draw_hi c h1) (draw_c c m)⟩
theorem atI_ok {α : Type} {xs : List α} {i : Int} (h0 : 0 ≤ i) (h1 : i < xs.length) : ∃ x, atI xs i = some x ∧ x ∈ xs ∧ xs[i.toNat]? = some x := by
  have hl : i.toNat < xs.length := by omega
  refine ⟨xs[i.toNat], ?_, List.getElem_mem hl, List.getElem?_eq_getElem hl⟩
  have q := atI_nat (xs := xs) (j := i.toNat) (List.getElem?_eq_getElem hl)
  rwa [Int.toNat_of_nonneg h0] at q
def conPick : Con := fun as c K _ => ∃ xs, as = [none, some (.lst xs)] ∧ xs ≠ [] ∧ xs.length ≤ 1000000 ∧ c.c < 1000000 ∧ ∀ x c', x ∈ xs → c'.c = c.c + 1 → K (.fz x) c'
theorem p_pick {Γ : Env} (h1 : Γ.fn "_law_draw" = some (.pl conDrawN true [])) : Impl Γ 2 conPick c__law_pick := by
  intro as c K h
  obtain ⟨xs, rfl, hne, hl, hc, hk⟩ := h
  have hl1 : 1 ≤ xs.length := List.length_pos_iff.mpr hne
  conv => whnf
  rw [h1]
  conv => whnf
  refine ⟨(xs.length : Int), rfl, by omega, Int.le_trans (b := 1000000) (by omega) (by decide), hc, fun i c' h0 h2 hc' => ⟨fun _ => rfl, ?_⟩⟩
  obtain ⟨x, e, hx, _⟩ := atI_ok h0 h2
  conv => whnf
  rw [e]
  exact hk x c' hx hc'
theorem lets : letters.cps.toList = List.range' 97 26 := by decide +kernel
theorem let_mem {c : Nat} : c ∈ letters.cps.toList ↔ 97 ≤ c ∧ c < 123 := by
  rw [lets, List.mem_range'_1]
theorem let_at {i : Int} (h0 : 0 ≤ i) (h1 : i < 26) : atI letters.cps.toList i = some (97 + i.toNat) := by
  rw [lets]
  obtain ⟨x, e, _, q⟩ := atI_ok (xs := List.range' 97 26) h0 (by rw [List.length_range']; omega)
  rw [e, ← q, List.getElem?_range' (by omega)]
  simp
theorem let_len : letters.length = 26 := by decide +kernel
theorem join0 : ∀ l : List Nat, Txt.join ("" : Str) (l.map fun c => (⟨#[c]⟩ : Str)) = ⟨l.toArray⟩ := by
  intro l
  rw [TL.join_eq]
  induction l with
  | nil => rfl
  | cons c l ih =>
    cases l with
    | nil => rfl
    | cons d l =>
      rw [List.map_cons, List.map_cons, Str.join, ← List.map_cons (f := fun c => (⟨#[c]⟩ : Str)), ih]
      · show (⟨(#[c] ++ (Str.ofString "").cps) ++ (d :: l).toArray⟩ : Str) = _
        have e : (Str.ofString "").cps = #[] := by decide +kernel
        rw [e]
        simp
      · simp
def words7 : List Str := ["open", "days", "pause", "back", "most", "bar", "set"]
theorem words_ok : ∀ w ∈ words7, MarkOk w := by unfold MarkOk; decide +kernel
def cand (k : Nat) : Str := ⟨#[113, 97 + k / 26, 97 + k % 26]⟩
theorem cand_inj {j k : Nat} (h : cand j = cand k) : j = k := by
  unfold cand at h
  injection h with h
  simp at h
  omega
theorem cand_ok {k : Nat} (h : k < 676) : MarkOk (cand k) := by
  refine ⟨show 1 ≤ 3 by decide, show 3 ≤ 8 by decide, fun c hc => ?_⟩
  have hc' : c ∈ [113, 97 + k / 26, 97 + k % 26] := hc
  rw [let_mem]
  simp at hc'
  omega
theorem nodup_len {α : Type} [DecidableEq α] : ∀ (l m : List α), l.Nodup → (∀ x ∈ l, x ∈ m) → l.length ≤ m.length
  | [], _, _, _ => Nat.zero_le _
  | x :: l, m, nd, h => by
    rw [List.nodup_cons] at nd
    have hx : x ∈ m := h x List.mem_cons_self
    have q := nodup_len l (m.erase x) nd.2 fun y hy => by
      have hne : y ≠ x := fun e => nd.1 (e ▸ hy)
      exact (List.mem_erase_of_ne hne).mpr (h y (List.mem_cons_of_mem _ hy))
    rw [List.length_erase_of_mem hx] at q
    have : 0 < m.length := List.length_pos_of_mem hx
    rw [List.length_cons]; omega
theorem cand_all {known : List Str} (h : ∀ k, k < 676 → cand k ∈ known) : 676 ≤ known.length := by
  have nd : ((List.range 676).map cand).Nodup := (List.nodup_range).map (f := cand) fun a b hne e => hne (cand_inj e)
  have sub : ∀ x ∈ (List.range 676).map cand, x ∈ known := fun x hx => by
    obtain ⟨k, hk, rfl⟩ := List.mem_map.mp hx
    exact h k (List.mem_range.mp hk)
  have q := nodup_len _ _ nd sub
  simpa using q
/-- a new mark -/
def conFresh : Con := fun as c K _ => ∃ known : List Str, as = [none, some (.lst (known.map D.str))] ∧ known.length ≤ 600 ∧ c.c + 12 < 1000000 ∧ ∀ x c', MarkOk x → x ∉ known → c.c ≤ c'.c → c'.c ≤ c.c + 12 → K (.fz (.str x)) c'
def b_fresh : List Sx := [(.asg 6 (.bin .add (.bin .add (.str "q") (.idx (.var 4) (.bin .fdiv (.var 3) (.int 26)))) (.idx (.var 4) (.bin .mod (.var 3) (.int 26))))), (.ite (.cmp .notin (.var 6) (.var 1)) [(.ret (.var 6))] [])]
theorem fresh_loop {Γ : Env} {known : List Str} {c : Stm} {nm : P} {ws : P} : ∀ (j k : Nat) (o3 o6 : Option P) (n : En), k + j = 676 → (∀ i, i < k → cand i ∈ known) → known.length ≤ 600 → isIo o3 = false → isIo o6 = false → (∀ k s, k < 676 → cand k ∉ known → s.c = c → n.rt (.fz (.str (cand k))) s) →
    forGo (.one 3) (exSs Γ b_fresh) (rangeD (k : Int) j) n ⟨[some .stm, some (.fz (.lst (known.map D.str))), some nm, o3, some (.fz (.str letters)), some ws, o6], c⟩ := by
  intro j
  induction j with
  | zero =>
    intro k o3 o6 n e h hl i3 i6 hn
    have := cand_all (known := known) fun i hi => h i (by omega)
    omega
  | succ j ih =>
    intro k o3 o6 n e h hl i3 i6 hn
    have e1 : ((k : Int) / 26).toNat = k / 26 := by omega
    have e2 : ((k : Int) % 26).toNat = k % 26 := by omega
    have hz : letters.length ≤ sizeLine := by rw [let_len]; decide
    refine And.intro i3 ?_
    conv => whnf
    refine And.intro ⟨by decide, by decide⟩ ?_
    conv => whnf
    refine And.intro hz ?_
    rw [let_at (i := (k : Int) / 26) (by omega) (by omega), e1]
    conv => whnf
    refine And.intro (show 1 + 1 ≤ sizeLine by decide) ?_
    conv => whnf
    refine And.intro (by decide) ?_
    conv => whnf
    refine And.intro hz ?_
    rw [let_at (i := (k : Int) % 26) (by omega) (by omega), e2]
    conv => whnf
    refine And.intro (show 2 + 1 ≤ sizeLine by decide) ?_
    conv => whnf
    refine And.intro i6 ?_
    conv => whnf
    refine And.intro ⟨rfl, strs_scal _⟩ ?_
    refine And.intro trivial ?_
    have ec : ((Str.ofString "q" ++ (⟨#[97 + k / 26]⟩ : Str)) ++ (⟨#[97 + k % 26]⟩ : Str)) = cand k := by
      show (⟨((Str.ofString "q").cps ++ #[97 + k / 26]) ++ #[97 + k % 26]⟩ : Str) = _
      have e : (Str.ofString "q").cps = #[113] := by decide +kernel
      rw [e]; rfl
    show (match (!inD (D.str ((Str.ofString "q" ++ (⟨#[97 + k / 26]⟩ : Str)) ++ (⟨#[97 + k % 26]⟩ : Str))) (known.map D.str)) with
      | true => _
      | false => _)
    rw [ec, inD_strs]
    cases hd : decide (cand k ∈ known) with
    | false =>
      have q := hn k (S.mk [some .stm, some (.fz (.lst (known.map D.str))), some nm, some (.fz (.int k)), some (.fz (.str letters)), some ws, some (.fz (.str (cand k)))] c) (by omega) (of_decide_eq_false hd) rfl
      rw [← ec] at q
      exact q
    | true =>
      have q := ih (k + 1) (some (.fz (.int k))) (some (.fz (.str (cand k)))) n (by omega) (fun i hi => by
        by_cases e : i = k
        · subst e; exact of_decide_eq_true hd
        · exact h i (by omega)) hl rfl rfl hn
      rw [← ec] at q
      exact q
end PP
set_option Elab.async false
set_option linter.all false
set_option maxRecDepth 100000
set_option maxHeartbeats 4000000
namespace PP
open PySem L2
def sg (c : Nat) : D := .str ⟨#[c]⟩
theorem asStrs_sg : ∀ l : List Nat, asStrs (l.map sg) = some (l.map fun c => (⟨#[c]⟩ : Str))
  | [] => rfl
  | b :: l => by rw [List.map_cons, sg, asStrs, asStrs_sg l]; rfl
theorem fresh_lc {Γ : Env} (h1 : Γ.fn "_law_draw" = some (.pl conDrawN true [])) {kn ws : P} {o2 o6 : Option P} {Kc : List D → S → Prop} {e : XC} : ∀ (j : Nat) (k : Int) (l : List Nat) (c : Stm) (o3 : Option P), isIo o3 = false → (∀ x ∈ l, 97 ≤ x ∧ x < 123) → c.c + j < 1000000 →
    (∀ (l' : List Nat) (c' : Stm) (o3 : Option P), isIo o3 = false → l'.length = l.length + j → (∀ x ∈ l', 97 ≤ x ∧ x < 123) → c'.c = c.c + j → Kc (l'.map sg) ⟨[some .stm, some kn, o2, o3, some (.fz (.str letters)), some ws, o6], c'⟩) →
    lcGo (.one 3) (evTs Γ []) (toD (evP Γ (.idx (.var 4) (.call "_law_draw" [(.var 0), (.int 26)] 0))).r) (rangeD k j) (l.map sg) ⟨[some .stm, some kn, o2, o3, some (.fz (.str letters)), some ws, o6], c⟩ Kc e := by
  intro j
  induction j with
  | zero =>
    intro k l c o3 i3 hl hc hk
    exact hk l c o3 i3 rfl hl rfl
  | succ j ih =>
    intro k l c o3 i3 hl hc hk
    refine And.intro (show (!isIo o3 && true) = true by rw [i3]; rfl) ?_
    refine And.intro rfl ?_
    conv => whnf
    rw [h1]
    conv => whnf
    refine ⟨26, rfl, by decide, by decide, show c.c < 1000000 by omega, fun i c' h0 h2 hc' => ⟨fun _ => rfl, ?_⟩⟩
    conv => whnf
    refine And.intro (show letters.length ≤ sizeLine by rw [let_len]; decide) ?_
    rw [let_at h0 h2]
    conv => whnf
    have q := ih (k + 1) (l ++ [97 + i.toNat]) c' (some (.fz (.int k))) rfl (fun x hx => by
      rcases List.mem_append.mp hx with hx | hx
      · exact hl x hx
      · rw [List.mem_singleton.mp hx]; omega) (by have : c'.c = c.c + 1 := hc'; omega) (fun l' c'' o3 i3 e1 e2 e3 => hk l' c'' o3 i3 (by rw [e1, List.length_append, List.length_singleton]; omega) e2 (by have : c'.c = c.c + 1 := hc'; omega))
    rw [List.map_append] at q
    exact q
def wordsD : List D := [(.str "open"), (.str "days"), (.str "pause"), (.str "back"), (.str "most"), (.str "bar"), (.str "set")]
theorem words_mem {x : D} (h : x ∈ wordsD) : ∃ w, x = .str w ∧ MarkOk w := by
  have e : wordsD = words7.map D.str := rfl
  rw [e] at h
  obtain ⟨w, hw, rfl⟩ := List.mem_map.mp h
  exact ⟨w, rfl, words_ok w hw⟩
theorem sizes_mem {x : D} (h : x ∈ [D.int 1, .int 1, .int 1, .int 2, .int 4, .int 8]) : ∃ n : Nat, x = .int (n : Int) ∧ 1 ≤ n ∧ n ≤ 8 := by
  simp only [List.mem_cons, List.mem_nil_iff, or_false] at h
  rcases h with rfl | rfl | rfl | rfl | rfl | rfl
  · exact ⟨1, rfl, by decide, by decide⟩
  · exact ⟨1, rfl, by decide, by decide⟩
  · exact ⟨1, rfl, by decide, by decide⟩
  · exact ⟨2, rfl, by decide, by decide⟩
  · exact ⟨4, rfl, by decide, by decide⟩
  · exact ⟨8, rfl, by decide, by decide⟩
theorem decV (i j : Int) : decide (V.int i = V.int j) = decide (i = j) := by
  by_cases h : i = j
  · subst h; simp
  · rw [decide_eq_false h, decide_eq_false fun e => h (V.int.inj e)]
theorem fresh_end {Γ : Env} {known : List Str} {c : Stm} {nm : Str} {o3 o6 : Option P} {ws : P} {n : En} (i3 : isIo o3 = false) (i6 : isIo o6 = false) (hl : known.length ≤ 600) (hm : MarkOk nm) (hk : ∀ x s, MarkOk x → x ∉ known → s.c = c → n.rt (.fz (.str x)) s) :
    exSs Γ [(.for_ (.one 3) (.bi .range [(.bin .mul (.int 676) (.bi .int [(.cmp .isin (.var 2) (.var 1))]))]) b_fresh), (.ret (.var 2))] n ⟨[some .stm, some (.fz (.lst (known.map D.str))), some (.fz (.str nm)), o3, some (.fz (.str letters)), some ws, o6], c⟩ := by
  conv => whnf
  refine And.intro ⟨rfl, strs_scal _⟩ ?_
  have e : inD (D.str nm) (known.map D.str) = decide (nm ∈ known) := inD_strs nm known
  show (CMul 676 (if inD (D.str nm) (known.map D.str) = true then 1 else 0)) ∧ _
  cases hd : decide (nm ∈ known) with
  | false =>
    rw [hd] at e
    refine And.intro (.inl (by decide)) ?_
    conv => whnf
    rw [e]
    refine And.intro (by decide) ?_
    exact hk nm (S.mk _ c) hm (of_decide_eq_false hd) rfl
  | true =>
    rw [hd] at e
    refine And.intro (.inl (by decide)) ?_
    conv => whnf
    rw [e]
    refine And.intro (by decide) ?_
    exact fresh_loop (Γ := Γ) (known := known) (c := c) 676 0 o3 o6 _ rfl (fun i h => absurd h (Nat.not_lt_zero i)) hl i3 i6 fun k s h1 h2 h3 => hk (cand k) s (cand_ok h1) h2 h3
theorem p_fresh {Γ : Env} (h1 : Γ.fn "_law_draw" = some (.pl conDrawN true [])) (h2 : Γ.fn "_law_pick" = some (.pl conPick false [])) : Impl Γ 7 conFresh c__law_fresh := by
  intro as c K h
  obtain ⟨known, rfl, hl, hc, hk⟩ := h
  conv => whnf
  refine And.intro (by decide) ?_
  conv => whnf
  refine And.intro (by decide) ?_
  conv => whnf
  refine And.intro rfl ?_
  conv => whnf
  refine And.intro rfl ?_
  conv => whnf
  refine And.intro (by decide) ?_
  conv => whnf
  rw [h1]
  conv => whnf
  refine ⟨6, rfl, by decide, by decide, show c.c < 1000000 by omega, fun i c1 h0 h3 hc1 => ⟨fun _ => rfl, ?_⟩⟩
  have hc1 : c1.c = c.c + 1 := hc1
  obtain ⟨x, e, hx, _⟩ := atI_ok (xs := [D.int 1, .int 1, .int 1, .int 2, .int 4, .int 8]) h0 h3
  obtain ⟨n, rfl, n1, n8⟩ := sizes_mem hx
  conv => whnf
  have e' : atI [(R.fz (D.int 1)).d, (R.fz (D.int 1)).d, (R.fz (D.int 1)).d, (R.fz (D.int 2)).d, (R.fz (D.int 4)).d, (R.fz (D.int 8)).d] i = some (D.int (n : Int)) := e
  rw [e']
  conv => whnf
  refine And.intro (by omega) ?_
  rw [Int.toNat_natCast]
  refine fresh_lc h1 n 0 [] c1 none rfl (fun x h => by simp at h) (by omega) fun l c2 o3 i3 l1 l2 l3 => ?_
  refine And.intro (show (!isIo o3 && true) = true by rw [i3]; rfl) ?_
  conv => whnf
  rw [asStrs_sg]
  have hlen : l.length = n := by simpa using l1
  refine And.intro ?_ ?_
  · have : ∀ l : List Nat, ((l.map fun c => (⟨#[c]⟩ : Str)).map (·.length)).sum = l.length := fun l => by
      induction l with
      | nil => rfl
      | cons x l ih => rw [List.map_cons, List.map_cons, List.sum_cons, ih, List.length_cons]; show 1 + _ = _; omega
    rw [this, List.length_map, hlen]
    have e0 : (Str.ofString "").length = 0 := by decide +kernel
    rw [e0]
    omega
  rw [join0]
  have hm : MarkOk ⟨l.toArray⟩ := by
    refine ⟨?_, ?_, fun c hc => let_mem.mpr (l2 c (by simpa using hc))⟩
    · show 1 ≤ l.toArray.size
      simp; omega
    · show l.toArray.size ≤ 8
      simp; omega
  conv => whnf
  refine And.intro rfl ?_
  conv => whnf
  rw [h1]
  conv => whnf
  refine ⟨9, rfl, by decide, by decide, show c2.c < 1000000 by omega, fun i c3 g0 g1 hc3 => ⟨fun _ => rfl, ?_⟩⟩
  have hc3 : c3.c = c2.c + 1 := hc3
  refine And.intro trivial ?_
  rw [show decide (toV (R.fz (D.int i)).d = toV (R.fz (D.int 0)).d) = decide (i = 0) from decV i 0]
  cases hd : decide (i = 0) with
  | false =>
    conv => whnf
    refine And.intro rfl ?_
    exact fresh_end (c := c3) (n := ⟨fun s => K (.fz .non) s.c, fun r s => K r s.c, fun _ => False, fun _ => False, noX⟩) rfl rfl hl hm fun x s h1 h2 h3 => hk x s.c h1 h2 (by rw [h3]; omega) (by rw [h3]; omega)
  | true =>
    conv => whnf
    rw [h2]
    conv => whnf
    refine ⟨wordsD, rfl, by decide, by decide, show c3.c < 1000000 by omega, fun x c4 hx hc4 => ⟨fun e => (by cases e), ?_⟩⟩
    have hc4 : c4.c = c3.c + 1 := hc4
    obtain ⟨w, rfl, hw⟩ := words_mem hx
    conv => whnf
    refine And.intro rfl ?_
    exact fresh_end (c := c4) (n := ⟨fun s => K (.fz .non) s.c, fun r s => K r s.c, fun _ => False, fun _ => False, noX⟩) rfl rfl hl hw fun x s h1 h2 h3 => hk x s.c h1 h2 (by rw [h3]; omega) (by rw [h3]; omega)
end PP
set_option Elab.async false
set_option linter.all false
set_option maxRecDepth 100000
set_option maxHeartbeats 4000000
namespace PP
open PySem L2
def conPool : Con := fun as c K _ => ∃ m : Nat, as = [none, some (.int (m : Int))] ∧ m ≤ 500 ∧ c.c + 12 * m + 12 < 1000000 ∧ ∀ (ms : List Str) (c' : Stm), ms.length = m → ms.Nodup → (∀ x ∈ ms, MarkOk x) → c'.c ≤ c.c + 12 * m → K (.fz (.lst (ms.map D.str))) c'
theorem p_pool {Γ : Env} (h1 : Γ.fn "_law_fresh" = some (.pl conFresh true [])) : Impl Γ 4 conPool c__law_pool := by
  intro as c K h
  obtain ⟨m, rfl, hm, hc, hk⟩ := h
  have go : ∀ (j : Nat) (k : Int) (ms : List Str) (c1 : Stm) (o : Option P) (n : En), ms.length + j = m → ms.Nodup → (∀ x ∈ ms, MarkOk x) → c1.c ≤ c.c + 12 * ms.length → isIo o = false →
      (∀ (ms : List Str) (c' : Stm) (o : Option P), ms.length = m → ms.Nodup → (∀ x ∈ ms, MarkOk x) → c'.c ≤ c.c + 12 * m → n.nx ⟨[some .stm, some (.fz (.int (m : Int))), some (.own (ms.map D.str)), o], c'⟩) →
      forGo (.one 3) (exSs Γ [(.app 2 (.call "_law_fresh" [(.var 0), (.var 2)] 0))]) (rangeD k j) n ⟨[some .stm, some (.fz (.int (m : Int))), some (.own (ms.map D.str)), o], c1⟩ := by
    intro j
    induction j with
    | zero =>
      intro k ms c1 o n e nd ok hc1 i hn
      exact hn ms c1 o e nd ok (by rw [← e]; exact hc1)
    | succ j ih =>
      intro k ms c1 o n e nd ok hc1 i hn
      refine And.intro i ?_
      conv => whnf
      rw [h1]
      conv => whnf
      refine ⟨ms, rfl, by omega, show c1.c + 12 < 1000000 by omega, fun x c' hx hnx g1 g2 => ⟨fun _ => rfl, ?_⟩⟩
      have g2 : c'.c ≤ c1.c + 12 := g2
      conv => whnf
      refine And.intro ?_ ?_
      · rw [List.length_map]
        exact Nat.lt_of_le_of_lt (m := 500) (by omega) (by decide)
      have q := ih (k + 1) (ms ++ [x]) c' (some (.fz (.int k))) n (by rw [List.length_append, List.length_singleton]; omega) (by
        rw [List.nodup_append]
        exact ⟨nd, by simp, fun a ha b hb e => hnx (by rw [List.mem_singleton.mp hb] at e; rw [← e]; exact ha)⟩) (fun y hy => by
        rcases List.mem_append.mp hy with hy | hy
        · exact ok y hy
        · rw [List.mem_singleton.mp hy]; exact hx) (by rw [List.length_append, List.length_singleton]; omega) rfl hn
      rw [List.map_append] at q
      exact q
  conv => whnf
  refine And.intro (by decide) ?_
  conv => whnf
  refine And.intro rfl ?_
  conv => whnf
  refine And.intro (by omega) ?_
  rw [Int.toNat_natCast]
  exact go m 0 [] c none _ (by simp) List.nodup_nil (fun x h => by simp at h) (by simp) rfl fun ms c' o h1 h2 h3 h4 => hk ms c' h1 h2 h3 h4
/-- some deeds between two openings -/
inductive Btw (w : Int) (b : List Str) : List Deed → List Str → Prop
  | nil : Btw w b [] b
  | days {l : List Deed} {b' : List Str} {n : Int} : Btw w b l b' → 1 ≤ n → n ≤ w → Btw w b (l ++ [.days n]) b'
  | pause {l : List Deed} {b' : List Str} {n : Int} : Btw w b l b' → 1 ≤ n → n ≤ 9 → Btw w b (l ++ [.pause n]) b'
  | back {l : List Deed} {b' : List Str} {m : Str} {j : Nat} : Btw w b l b' → b'[j]? = some m → Btw w b (l ++ [.back m]) (b'.eraseIdx j)
theorem Btw.sub {w : Int} {b : List Str} {l : List Deed} {b' : List Str} (h : Btw w b l b') : ∀ m ∈ b', m ∈ b := by
  induction h with
  | nil => exact fun m h => h
  | days _ _ _ ih => exact ih
  | pause _ _ _ ih => exact ih
  | back _ _ ih => exact fun m hm => ih m (List.mem_of_mem_eraseIdx hm)
def conBetween : ConIO := fun as xs c K _ => ∃ (w : Int) (b : List Str), as = [none, none, some (.int w)] ∧ xs = b.map D.str ∧ 1 ≤ w ∧ w ≤ 10 ^ 100 ∧ c.c + 12 < 1000000 ∧ b.length ≤ 100000 ∧ (∀ m ∈ b, PyData.strOk m = true) ∧
  ∀ (l : List Deed) (b' : List Str) (c' : Stm), Btw w b l b' → l.length ≤ 2 → c'.c ≤ c.c + 8 → K (.fz (.lst (l.map Deed.d))) (b'.map D.str) c'
def b_btw : List Sx := [(.asg 5 (.call "_law_draw" [(.var 0), (.int 10)] 0)), (.ite (.cmp .lt (.var 5) (.int 6)) [(.app 3 (.tup [(.str "days"), (.bin .add (.int 1) (.call "_law_draw" [(.var 0), (.var 2)] 0))]))] [(.ite (.cmp .lt (.var 5) (.int 8)) [(.app 3 (.tup [(.str "pause"), (.bin .add (.int 1) (.call "_law_draw" [(.var 0), (.int 9)] 0))]))] [(.ite (.and (.cmp .eq (.var 5) (.int 8)) (.cmp .ne (.var 1) (.lst []))) [(.app 3 (.tup [(.str "back"), (.pop 1 (some (.call "_law_draw" [(.var 0), (.bi .len [(.var 1)])] 0)))]))] [])])])]
theorem erase_map {α β : Type} (f : α → β) : ∀ (l : List α) (i : Nat), (l.map f).eraseIdx i = (l.eraseIdx i).map f
  | [], _ => rfl
  | _ :: _, 0 => rfl
  | x :: l, i + 1 => by
    show f x :: (l.map f).eraseIdx i = f x :: (l.eraseIdx i).map f
    rw [erase_map f l i]
theorem mark_str {m : Str} (h : MarkOk m) : PyData.strOk m = true := by
  unfold PyData.strOk
  rw [Array.all_eq_true']
  intro c hc
  have := let_mem.mp (h.2.2 c (by simpa using hc))
  exact decide_eq_true (by omega)
theorem lay_strs : ∀ ns : List Str, (∀ n ∈ ns, PyData.strOk n = true) → PyData.canLayAll0 (pds (ns.map D.str)) = true
  | [], _ => rfl
  | n :: ns, h => by
    have := lay_strs ns fun m hm => h m (List.mem_cons_of_mem _ hm)
    have h0 := h n List.mem_cons_self
    simp only [List.map_cons, pds, pd, PyData.canLayAll0, PyData.canLay0, h0, this, Bool.and_self]
theorem dep_strs : ∀ ns : List Str, PyData.depthAll (pds (ns.map D.str)) ≤ 1
  | [] => by decide
  | n :: ns => by
    have := dep_strs ns
    simp only [List.map_cons, pds, pd, PyData.depthAll, PyData.depth]
    omega
theorem shp_strs (ns : List Str) (hs : ∀ n ∈ ns, PyData.strOk n = true) : SeqAt.shaped (pd (.lst (ns.map D.str))) = true := by
  unfold SeqAt.shaped
  rw [show (pd (.lst (ns.map D.str))).canLay0 = true from lay_strs ns hs]
  have h := dep_strs ns
  have : (pd (.lst (ns.map D.str))).depth ≤ 64 := by
    simp only [pd, PyData.depth]
    omega
  rw [decide_eq_true this]; rfl
theorem nil_eqS (ns : List Str) : eqD (.lst (ns.map D.str)) (.lst []) = ns.isEmpty := by
  cases ns with
  | nil => rfl
  | cons n ns => rfl
theorem popL_at {xs : List Str} {i : Int} (h0 : 0 ≤ i) (h1 : i < xs.length) : ∃ m, xs[i.toNat]? = some m ∧ popL (xs.map D.str) (some i) = some (.str m, (xs.eraseIdx i.toNat).map D.str) := by
  have hl : i.toNat < xs.length := by omega
  refine ⟨xs[i.toNat], List.getElem?_eq_getElem hl, ?_⟩
  have e : ixN (xs.map D.str).length i = some i.toNat := by
    unfold ixN
    rw [List.length_map, if_pos h0, if_pos h1]
  show (match ixN (xs.map D.str).length i with
    | some j => ((xs.map D.str)[j]?).map fun x => (x, (xs.map D.str).eraseIdx j)
    | none => none) = _
  rw [e]
  show ((xs.map D.str)[i.toNat]?).map (fun x => (x, (xs.map D.str).eraseIdx i.toNat)) = _
  rw [List.getElem?_map, List.getElem?_eq_getElem hl, erase_map]
  rfl
theorem p_between {Γ : Env} (h1 : Γ.fn "_law_draw" = some (.pl conDrawN true [])) : ImplIO Γ 6 1 conBetween c__law_between := by
  intro as xs c K h
  obtain ⟨w, b, rfl, rfl, w1, w2, hc, hb, hbs, hk⟩ := h
  have go : ∀ (j : Nat) (k : Int) (l : List Deed) (b' : List Str) (c1 : Stm) (o4 o5 : Option P) (n : En), l.length + j ≤ 2 → Btw w b l b' → b'.length ≤ 100000 → c1.c + 3 * j ≤ c.c + 8 → isIo o4 = false → isIo o5 = false →
      (∀ (l : List Deed) (b' : List Str) (c' : Stm) (o4 o5 : Option P), Btw w b l b' → l.length ≤ 2 → c'.c ≤ c.c + 8 → n.nx ⟨[some .stm, some (.io (b'.map D.str)), some (.fz (.int w)), some (.own (l.map Deed.d)), o4, o5], c'⟩) →
      forGo (.one 4) (exSs Γ b_btw) (rangeD k j) n ⟨[some .stm, some (.io (b'.map D.str)), some (.fz (.int w)), some (.own (l.map Deed.d)), o4, o5], c1⟩ := by
    intro j
    induction j with
    | zero =>
      intro k l b' c1 o4 o5 n e bt hb hc1 i4 i5 hn
      exact hn l b' c1 o4 o5 bt e (by omega)
    | succ j ih =>
      intro k l b' c1 o4 o5 n e bt hb hc1 i4 i5 hn
      have hll : (l.map Deed.d).length < sizeLine := by
        rw [List.length_map]
        exact Nat.lt_of_le_of_lt (m := 2) (by omega) (by decide)
      refine And.intro i4 ?_
      conv => whnf
      rw [h1]
      conv => whnf
      refine ⟨10, rfl, by decide, by decide, show c1.c < 1000000 by omega, fun i c2 g0 g1 hc2 => ⟨fun _ => rfl, ?_⟩⟩
      have hc2 : c2.c = c1.c + 1 := hc2
      conv => whnf
      refine And.intro i5 ?_
      refine And.intro trivial ?_
      conv => whnf
      cases hd : decide (i < 6) with
      | true =>
        conv => whnf
        rw [h1]
        conv => whnf
        refine ⟨w, rfl, w1, w2, show c2.c < 1000000 by omega, fun x c3 g2 g3 hc3 => ⟨fun _ => rfl, ?_⟩⟩
        have hc3 : c3.c = c2.c + 1 := hc3
        conv => whnf
        refine And.intro (show 2 ≤ sizeLine by decide) ?_
        conv => whnf
        refine And.intro hll ?_
        have q := ih (k + 1) (l ++ [.days (1 + x)]) b' c3 (some (.fz (.int k))) (some (.fz (.int i))) n (by rw [List.length_append, List.length_singleton]; omega) (.days bt (by omega) (by omega)) hb (by omega) rfl rfl hn
        rw [List.map_append] at q
        exact q
      | false =>
        refine And.intro trivial ?_
        conv => whnf
        cases hd2 : decide (i < 8) with
        | true =>
          conv => whnf
          rw [h1]
          conv => whnf
          refine ⟨9, rfl, by decide, by decide, show c2.c < 1000000 by omega, fun x c3 g2 g3 hc3 => ⟨fun _ => rfl, ?_⟩⟩
          have hc3 : c3.c = c2.c + 1 := hc3
          conv => whnf
          refine And.intro (show 2 ≤ sizeLine by decide) ?_
          conv => whnf
          refine And.intro hll ?_
          have q := ih (k + 1) (l ++ [.pause (1 + x)]) b' c3 (some (.fz (.int k))) (some (.fz (.int i))) n (by rw [List.length_append, List.length_singleton]; omega) (.pause bt (by omega) (by omega)) hb (by omega) rfl rfl hn
          rw [List.map_append] at q
          exact q
        | false =>
          conv => whnf
          refine And.intro trivial ?_
          rw [show decide (toV (D.int i) = toV (R.fz (D.int 8)).d) = decide (i = 8) from decV i 8]
          cases hd3 : decide (i = 8) with
          | false =>
            conv => whnf
            exact ih (k + 1) l b' c2 (some (.fz (.int k))) (some (.fz (.int i))) n (by omega) bt hb (by omega) rfl rfl hn
          | true =>
            conv => whnf
            refine And.intro (by decide) ?_
            conv => whnf
            refine And.intro ?_ ?_
            · show (SeqAt.shaped (pd (.lst (b'.map D.str))) && SeqAt.shaped (pd (.lst []))) = true
              rw [shp_strs b' fun m hm => hbs m (bt.sub m hm)]; rfl
            refine And.intro trivial ?_
            rw [show eqD (D.lst (b'.map D.str)) (R.nl []).d = b'.isEmpty from nil_eqS b']
            cases b' with
            | nil =>
              conv => whnf
              exact ih (k + 1) l [] c2 (some (.fz (.int k))) (some (.fz (.int i))) n (by omega) bt hb (by omega) rfl rfl hn
            | cons m0 b' =>
              conv => whnf
              rw [h1]
              conv => whnf
              refine ⟨((m0 :: b').length : Int), by rw [← List.length_map (f := D.str)]; rfl, by simp; omega, Int.le_trans (b := 100000) (by omega) (by decide), show c2.c < 1000000 by omega, fun x c3 g2 g3 hc3 => ⟨fun _ => rfl, ?_⟩⟩
              have hc3 : c3.c = c2.c + 1 := hc3
              obtain ⟨m, em, ep⟩ := popL_at (xs := m0 :: b') g2 g3
              conv => whnf
              refine And.intro (by omega) ?_
              conv => whnf
              rw [show popL (List.map D.str (m0 :: b')) (some x) = _ from ep]
              conv => whnf
              refine And.intro (show 2 ≤ sizeLine by decide) ?_
              conv => whnf
              refine And.intro hll ?_
              have q := ih (k + 1) (l ++ [.back m]) ((m0 :: b').eraseIdx x.toNat) c3 (some (.fz (.int k))) (some (.fz (.int i))) n (by rw [List.length_append, List.length_singleton]; omega) (.back bt em) (Nat.le_trans (List.length_eraseIdx_le _ _) hb) (by omega) rfl rfl hn
              rw [List.map_append] at q
              exact q
  conv => whnf
  refine And.intro (by decide) ?_
  conv => whnf
  refine And.intro rfl ?_
  conv => whnf
  rw [h1]
  conv => whnf
  refine ⟨3, rfl, by decide, by decide, show c.c < 1000000 by omega, fun i c2 g0 g1 hc2 => ⟨fun _ => rfl, ?_⟩⟩
  have hc2 : c2.c = c.c + 1 := hc2
  conv => whnf
  refine And.intro (by omega) ?_
  exact go i.toNat 0 [] b c2 none none _ (by simp; omega) .nil hb (by omega) rfl rfl fun l b' c' o4 o5 bt hl hc' => hk l b' c' bt hl hc'
end PP
set_option Elab.async false
set_option linter.all false
set_option maxRecDepth 100000
set_option maxHeartbeats 4000000
namespace PP
open PySem L2
theorem Btw.len {w : Int} {b : List Str} {l : List Deed} {b' : List Str} (h : Btw w b l b') : b'.length ≤ b.length := by
  induction h with
  | nil => exact Nat.le_refl _
  | days _ _ _ ih => exact ih
  | pause _ _ _ ih => exact ih
  | back _ _ ih => exact Nat.le_trans (List.length_eraseIdx_le _ _) ih
/-- a row under way: the marks opened, the deeds, the marks begun -/
inductive RowR (w : Int) : List Str → List Deed → List Str → Prop
  | nil : RowR w [] [] []
  | step {ps : List Str} {row l : List Deed} {b b' : List Str} {m : Str} {n : Int} : RowR w ps row b → Btw w b l b' → 1 ≤ n → n ≤ w → RowR w (ps ++ [m]) (row ++ l ++ [.op m n]) (b' ++ [m])
def RowF (w : Int) (ps : List Str) (row : List Deed) : Prop := ∃ row0 b l b', RowR w ps row0 b ∧ Btw w b l b' ∧ row = row0 ++ l
theorem RowR.sub {w : Int} {ps : List Str} {row : List Deed} {b : List Str} (h : RowR w ps row b) : (∀ m ∈ b, m ∈ ps) ∧ b.length ≤ ps.length := by
  induction h with
  | nil => exact ⟨fun m h => h, Nat.le_refl _⟩
  | @step ps row l b b' m n _ bt _ _ ih =>
    have hl : b'.length ≤ b.length := bt.len
    refine ⟨fun x hx => ?_, by rw [List.length_append, List.length_append]; have := ih.2; simp; omega⟩
    rcases List.mem_append.mp hx with hx | hx
    · exact List.mem_append_left _ (ih.1 x (bt.sub x hx))
    · exact List.mem_append_right _ hx
def conRow : Con := fun as c K _ => ∃ (pool : List Str) (w : Int), as = [none, some (.lst (pool.map D.str)), some (.int w)] ∧ 1 ≤ w ∧ w ≤ 10 ^ 100 ∧ pool.length ≤ 1000 ∧ (∀ m ∈ pool, MarkOk m) ∧ c.c + 12 * (pool.length + 2) < 1000000 ∧
  ∀ (row : List Deed) (c' : Stm), RowF w pool row → row.length ≤ 3 * pool.length + 2 → c'.c ≤ c.c + 10 * (pool.length + 1) → K (.nl (row.map Deed.d)) c'
def b_lrow : List Sx := [(.ext 4 (.io "_law_between" [(.var 0), (.var 5), (.var 2)])), (.app 4 (.tup [(.str "open"), (.var 3), (.bin .add (.int 1) (.call "_law_draw" [(.var 0), (.var 2)] 0))])), (.app 5 (.var 3))]
theorem p_row {Γ : Env} (h1 : Γ.fn "_law_draw" = some (.pl conDrawN true [])) (h2 : Γ.fn "_law_between" = some (.io 1 conBetween)) : Impl Γ 6 conRow c__law_row := by
  intro as c K h
  obtain ⟨pool, w, rfl, w1, w2, hp, hm, hc, hk⟩ := h
  have hio : ioIx Γ "_law_between" = 1 := by unfold ioIx; rw [h2]
  have big : ∀ n, n ≤ 100000 → n < sizeLine := fun n h => Nat.lt_of_le_of_lt h (by decide)
  have bigs : ∀ n, n ≤ 100000 → n ≤ sizeLine := fun n h => Nat.le_of_lt (big n h)
  have go : ∀ (p2 p1 : List Str) (row : List Deed) (b : List Str) (c1 : Stm) (o3 : Option P) (n : En), p1 ++ p2 = pool → RowR w p1 row b → row.length ≤ 3 * p1.length → c1.c ≤ c.c + 10 * p1.length → isIo o3 = false →
      (∀ (row : List Deed) (b : List Str) (c' : Stm) (o3 : Option P), RowR w pool row b → row.length ≤ 3 * pool.length → c'.c ≤ c.c + 10 * pool.length → n.nx ⟨[some .stm, some (.fz (.lst (pool.map D.str))), some (.fz (.int w)), o3, some (.own (row.map Deed.d)), some (.own (b.map D.str))], c'⟩) →
      forGo (.one 3) (exSs Γ b_lrow) (p2.map D.str) n ⟨[some .stm, some (.fz (.lst (pool.map D.str))), some (.fz (.int w)), o3, some (.own (row.map Deed.d)), some (.own (b.map D.str))], c1⟩ := by
    intro p2
    induction p2 with
    | nil =>
      intro p1 row b c1 o3 n e rr hl hc1 i3 hn
      rw [List.append_nil] at e
      subst e
      exact hn row b c1 o3 rr hl hc1
    | cons m p2 ih =>
      intro p1 row b c1 o3 n e rr hl hc1 i3 hn
      have hpl : p1.length < pool.length := by rw [← e]; simp
      have hb := rr.sub
      refine And.intro i3 ?_
      conv => whnf
      rw [h2]
      conv => whnf
      rw [hio]
      conv => whnf
      refine ⟨w, b, rfl, rfl, w1, w2, show c1.c + 12 < 1000000 by omega, by omega, fun m hmm => mark_str (hm m (by rw [← e]; exact List.mem_append_left _ (hb.1 m hmm))), fun l b' c2 bt hll hc2 => ?_⟩
      have hc2 : c2.c ≤ c1.c + 8 := hc2
      conv => whnf
      refine And.intro ?_ ?_
      · rw [List.length_map, List.length_map]; exact bigs _ (by omega)
      conv => whnf
      rw [h1]
      conv => whnf
      refine ⟨w, rfl, w1, w2, show c2.c < 1000000 by omega, fun x c3 g2 g3 hc3 => ⟨fun _ => rfl, ?_⟩⟩
      have hc3 : c3.c = c2.c + 1 := hc3
      conv => whnf
      refine And.intro (show 3 ≤ sizeLine by decide) ?_
      conv => whnf
      refine And.intro ?_ ?_
      · rw [List.length_append, List.length_map, List.length_map]; exact big _ (by omega)
      conv => whnf
      have bl : b'.length ≤ b.length := bt.len
      refine And.intro ?_ ?_
      · rw [List.length_map]; exact big _ (by omega)
      have q := ih (p1 ++ [m]) (row ++ l ++ [.op m (1 + x)]) (b' ++ [m]) c3 (some (.fz (.str m))) n (by rw [← e]; simp) (.step rr bt (by omega) (by omega)) (by simp; omega) (by simp; omega) rfl hn
      rw [List.map_append, List.map_append, List.map_append] at q
      exact q
  conv => whnf
  refine And.intro (by decide) ?_
  conv => whnf
  refine And.intro (by decide) ?_
  conv => whnf
  refine And.intro rfl ?_
  conv => whnf
  refine And.intro rfl ?_
  refine go pool [] [] [] c none _ rfl .nil (by simp) (by simp) rfl fun row b c1 o3 rr hl hc1 => ?_
  conv => whnf
  rw [h2]
  conv => whnf
  rw [hio]
  conv => whnf
  have hb := rr.sub
  refine ⟨w, b, rfl, rfl, w1, w2, show c1.c + 12 < 1000000 by omega, by omega, fun m hmm => mark_str (hm m (hb.1 m hmm)), fun l b' c2 bt hll hc2 => ?_⟩
  have hc2 : c2.c ≤ c1.c + 8 := hc2
  conv => whnf
  refine And.intro ?_ ?_
  · rw [List.length_map, List.length_map]; exact bigs _ (by omega)
  have q := hk (row ++ l) c2 ⟨row, b, l, b', rr, bt, rfl⟩ (by rw [List.length_append]; omega) (by omega)
  rw [List.map_append] at q
  exact q
end PP
set_option Elab.async false
set_option linter.all false
set_option maxRecDepth 100000
set_option maxHeartbeats 4000000
namespace PP
open PySem L2
theorem vd_snoc {d : Deed} : ∀ {l : List Deed} {op : List Str} {a : Ac}, vd op a l → newOp (op ++ l.flatMap opens) d → (a.run l).ok d → vd op a (l ++ [d])
  | [], op, a, _, h1, h2 => ⟨by simpa using h1, h2, trivial⟩
  | x :: l, op, a, h, h1, h2 => ⟨h.1, h.2.1, vd_snoc h.2.2 (by rw [List.flatMap_cons, ← List.append_assoc] at h1; exact h1) h2⟩
theorem vd_append {r : List Deed} : ∀ {l : List Deed} {op : List Str} {a : Ac}, vd op a l → vd (op ++ l.flatMap opens) (a.run l) r → vd op a (l ++ r)
  | [], op, a, _, h => by simpa [Ac.run] using h
  | x :: l, op, a, h, h1 => ⟨h.1, h.2.1, vd_append h.2.2 (by rw [List.flatMap_cons, ← List.append_assoc] at h1; exact h1)⟩
theorem run_append (a : Ac) : ∀ (l r : List Deed), a.run (l ++ r) = (a.run l).run r
  | [], _ => rfl
  | x :: l, r => run_append (a.step x) l r
theorem step_keys (a : Ac) (d : Deed) : ∀ m ∈ (a.step d).given.map (·.1), m ∈ a.given.map (·.1) ∨ m ∈ opens d := by
  intro m hm
  cases d with
  | op x n =>
    simp only [Ac.step, List.map_append, List.map_cons, List.map_nil, List.mem_append, List.mem_singleton] at hm
    exact hm.imp id fun e => by simp [opens, e]
  | days n => exact .inl hm
  | pause n => exact .inl hm
  | back x =>
    simp only [Ac.step] at hm
    obtain ⟨p, hp, rfl⟩ := List.mem_map.mp hm
    exact .inl (List.mem_map.mpr ⟨p, (List.mem_filter.mp hp).1, rfl⟩)
theorem run_keys (a : Ac) : ∀ (r : List Deed), ∀ m ∈ (a.run r).given.map (·.1), m ∈ a.given.map (·.1) ∨ m ∈ r.flatMap opens
  | [], m, h => .inl h
  | d :: r, m, h => by
    rcases run_keys (a.step d) r m h with q | q
    · rcases step_keys a d m q with q | q
      · exact .inl q
      · exact .inr (by rw [List.flatMap_cons]; exact List.mem_append_left _ q)
    · exact .inr (by rw [List.flatMap_cons]; exact List.mem_append_right _ q)
theorem btw_ok {w : Int} {b : List Str} {l : List Deed} {b' : List Str} (h : Btw w b l b') {op : List Str} {a : Ac} (hb : ∀ m ∈ b, m ∈ a.given.map (·.1)) (nd : b.Nodup) (mk : ∀ m ∈ b, MarkOk m) :
    vd op a l ∧ (∀ m ∈ b', m ∈ (a.run l).given.map (·.1)) ∧ b'.Nodup ∧ l.flatMap opens = [] ∧ ∀ d ∈ l, okD d := by
  induction h with
  | nil => exact ⟨trivial, hb, nd, rfl, fun d h => by simp at h⟩
  | @days l b' n bt h1 h2 ih =>
    obtain ⟨i1, i2, i3, i4, i5⟩ := ih
    refine ⟨vd_snoc i1 trivial trivial, by rw [run_snoc]; exact i2, i3, by rw [List.flatMap_append, i4]; rfl, fun d hd => ?_⟩
    rcases List.mem_append.mp hd with hd | hd
    · exact i5 d hd
    · rw [List.mem_singleton.mp hd]; show 0 < n; omega
  | @pause l b' n bt h1 h2 ih =>
    obtain ⟨i1, i2, i3, i4, i5⟩ := ih
    refine ⟨vd_snoc i1 trivial trivial, by rw [run_snoc]; exact i2, i3, by rw [List.flatMap_append, i4]; rfl, fun d hd => ?_⟩
    rcases List.mem_append.mp hd with hd | hd
    · exact i5 d hd
    · rw [List.mem_singleton.mp hd]; show 0 < n; omega
  | @back l b' m j bt hj ih =>
    obtain ⟨i1, i2, i3, i4, i5⟩ := ih
    have hm : m ∈ b' := List.mem_of_getElem? hj
    have ndj : ∀ x ∈ b'.eraseIdx j, x ≠ m := fun x hx e => by
      obtain ⟨i, hi1, hi2⟩ := List.mem_eraseIdx_iff_getElem?.mp hx
      subst e
      exact hi1 ((List.getElem?_inj (List.getElem?_eq_some_iff.mp hi2).1 i3).mp (by rw [hi2, hj]))
    refine ⟨vd_snoc i1 trivial (i2 m hm), fun x hx => ?_, i3.eraseIdx j, by rw [List.flatMap_append, i4]; rfl, fun d hd => ?_⟩
    · rw [run_snoc]
      have q := i2 x (List.mem_of_mem_eraseIdx hx)
      obtain ⟨p, hp, rfl⟩ := List.mem_map.mp q
      exact List.mem_map.mpr ⟨p, List.mem_filter.mpr ⟨hp, decide_eq_true (ndj _ hx)⟩, rfl⟩
    · rcases List.mem_append.mp hd with hd | hd
      · exact i5 d hd
      · rw [List.mem_singleton.mp hd]; exact mk m (bt.sub m hm)
theorem rowR_ok {w : Int} {ps : List Str} {row : List Deed} {b : List Str} (h : RowR w ps row b) (nd : ps.Nodup) (mk : ∀ m ∈ ps, MarkOk m) :
    vd [] ac0 row ∧ (∀ m ∈ b, m ∈ (ac0.run row).given.map (·.1)) ∧ b.Nodup ∧ row.flatMap opens = ps ∧ ∀ d ∈ row, okD d := by
  induction h with
  | nil => exact ⟨trivial, fun m h => by simp at h, List.nodup_nil, rfl, fun d h => by simp at h⟩
  | @step ps row l b b' m n rr bt h1 h2 ih =>
    have nd0 := nd
    rw [List.nodup_append] at nd
    obtain ⟨i1, i2, i3, i4, i5⟩ := ih nd.1 fun x hx => mk x (List.mem_append_left _ hx)
    obtain ⟨j1, j2, j3, j4, j5⟩ := btw_ok bt (op := [] ++ row.flatMap opens) i2 i3 fun x hx => mk x (List.mem_append_left _ (rr.sub.1 x hx))
    have hmn : m ∉ ps := fun q => nd.2.2 m q m (by simp) rfl
    have e1 : (row ++ l).flatMap opens = ps := by rw [List.flatMap_append, i4, j4, List.append_nil]
    have v1 : vd [] ac0 (row ++ l) := vd_append i1 j1
    have hk : m ∉ (ac0.run (row ++ l)).given.map (·.1) := fun q => by
      rcases run_keys ac0 _ m q with q | q
      · simp [ac0] at q
      · rw [e1] at q; exact hmn q
    refine ⟨vd_snoc v1 ?_ hk, fun x hx => ?_, ?_, by rw [List.flatMap_append, e1]; rfl, fun d hd => ?_⟩
    · show m ∉ [] ++ (row ++ l).flatMap opens
      rw [e1]; simpa using hmn
    · rw [run_snoc]
      show x ∈ ((ac0.run (row ++ l)).given ++ [(m, n)]).map (·.1)
      rw [List.map_append, run_append]
      rcases List.mem_append.mp hx with hx | hx
      · exact List.mem_append_left _ (j2 x hx)
      · exact List.mem_append_right _ hx
    · rw [List.nodup_append]
      refine ⟨j3, by simp, fun x hx y hy e => hmn ?_⟩
      rw [List.mem_singleton.mp hy] at e
      rw [← e]; exact rr.sub.1 x (bt.sub x hx)
    · rcases List.mem_append.mp hd with hd | hd
      · rcases List.mem_append.mp hd with hd | hd
        · exact i5 d hd
        · exact j5 d hd
      · rw [List.mem_singleton.mp hd]; exact ⟨mk m (by simp), by omega⟩
theorem rowF_ok {w : Int} {ps : List Str} {row : List Deed} (h : RowF w ps row) (nd : ps.Nodup) (mk : ∀ m ∈ ps, MarkOk m) (hl : row.length ≤ 100000) : ValidRow row ∧ row.flatMap opens = ps := by
  obtain ⟨row0, b, l, b', rr, bt, rfl⟩ := h
  obtain ⟨i1, i2, i3, i4, i5⟩ := rowR_ok rr nd mk
  obtain ⟨j1, j2, j3, j4, j5⟩ := btw_ok bt (op := [] ++ row0.flatMap opens) i2 i3 fun x hx => mk x (rr.sub.1 x hx)
  refine ⟨⟨fun d hd => ?_, hl, vd_append i1 j1⟩, by rw [List.flatMap_append, i4, j4, List.append_nil]⟩
  rcases List.mem_append.mp hd with hd | hd
  · exact i5 d hd
  · exact j5 d hd
def backs : Deed → List Str
  | .back m => [m]
  | _ => []
theorem snoc_ind {α : Type} {C : List α → Prop} (h0 : C []) (hs : ∀ l x, C l → C (l ++ [x])) (l : List α) : C l := by
  have : ∀ r : List α, C r.reverse := fun r => by
    induction r with
    | nil => exact h0
    | cons x r ih => rw [List.reverse_cons]; exact hs _ _ ih
  rw [← List.reverse_reverse l]; exact this _
theorem count_marks : ∀ row : List Deed, vd [] ac0 row → marksOf row = (row.flatMap opens).filter (fun m => decide (m ∉ row.flatMap backs)) ∧ ∀ m ∈ row.flatMap backs, m ∈ row.flatMap opens := by
  refine snoc_ind (fun _ => ⟨rfl, fun m h => by simp at h⟩) fun l d ih h => ?_
  obtain ⟨v1, hnew, hok, _⟩ := vd_app h
  obtain ⟨e, hb⟩ := ih v1
  have ek : marksOf (l ++ [d]) = ((ac0.run l).step d).given.map (·.1) := by unfold marksOf acOf; rw [run_snoc]
  rw [ek, List.flatMap_append, List.flatMap_append]
  cases d with
  | op m n =>
    have hnew : m ∉ l.flatMap opens := by simpa [newOp] using hnew
    refine ⟨?_, fun x hx => List.mem_append_left _ (hb x (by simpa [backs] using hx))⟩
    show ((ac0.run l).given ++ [(m, n)]).map (·.1) = _
    rw [List.map_append, show (ac0.run l).given.map (·.1) = marksOf l from rfl, e]
    have hmb : m ∉ l.flatMap backs := fun q => hnew (hb m q)
    have e2 : ([Deed.op m n].flatMap backs) = [] := rfl
    have e3 : ([Deed.op m n].flatMap opens) = [m] := rfl
    rw [e2, e3, List.append_nil, List.filter_append, List.filter_cons_of_pos (by simpa using hmb)]
    rfl
  | days n =>
    have e2 : ([Deed.days n].flatMap backs) = [] := rfl
    have e3 : ([Deed.days n].flatMap opens) = [] := rfl
    rw [e2, e3, List.append_nil, List.append_nil]
    exact ⟨e, hb⟩
  | pause n =>
    have e2 : ([Deed.pause n].flatMap backs) = [] := rfl
    have e3 : ([Deed.pause n].flatMap opens) = [] := rfl
    rw [e2, e3, List.append_nil, List.append_nil]
    exact ⟨e, hb⟩
  | back m =>
    have e2 : ([Deed.back m].flatMap backs) = [m] := rfl
    have e3 : ([Deed.back m].flatMap opens) = [] := rfl
    rw [e2, e3, List.append_nil]
    have hmo : m ∈ l.flatMap opens := by
      rcases run_keys ac0 l m hok with q | q
      · simp [ac0] at q
      · exact q
    refine ⟨?_, fun x hx => ?_⟩
    · show ((ac0.run l).given.filter fun p => decide (p.1 ≠ m)).map (·.1) = _
      have e4 : ((ac0.run l).given.filter fun p => decide (p.1 ≠ m)).map (·.1) = (marksOf l).filter fun x => decide (x ≠ m) := by
        show _ = ((ac0.run l).given.map (·.1)).filter _
        rw [List.filter_map]; rfl
      rw [e4, e, List.filter_filter]
      apply List.filter_congr
      intro x _
      simp [Bool.and_comm]
    · rcases List.mem_append.mp hx with hx | hx
      · exact hb x hx
      · rw [List.mem_singleton.mp hx]; exact hmo
end PP
set_option Elab.async false
set_option linter.all false
set_option maxRecDepth 100000
set_option maxHeartbeats 4000000
namespace PP
open PySem L2
def leS (a b : Str) : Bool := decide (a.cps.toList ≤ b.cps.toList)
def sortS (ms : List Str) : List Str := ms.mergeSort leS
def tD (s : List Str) : D := .tup (s.map D.str)
end PP
set_option Elab.async false
set_option linter.all false
set_option maxRecDepth 100000
set_option maxHeartbeats 4000000
namespace PP
open PySem L2
def Falls (zs : List (Str × Int × Int)) : Prop := zs.Pairwise (fun p q => q.2.2 ≤ p.2.2) ∧ ∀ z ∈ zs, 0 ≤ z.2.2 ∧ 0 < z.2.1
theorem Falls.tail {z : Str × Int × Int} {zs : List (Str × Int × Int)} (h : Falls (z :: zs)) : Falls zs ∧ (∀ y ∈ zs, y.2.2 ≤ z.2.2) ∧ 0 ≤ z.2.2 ∧ 0 < z.2.1 :=
  ⟨⟨(List.pairwise_cons.mp h.1).2, fun y hy => h.2 y (List.mem_cons_of_mem _ hy)⟩, (List.pairwise_cons.mp h.1).1, h.2 z List.mem_cons_self⟩
theorem lft_lo (P : Str → Bool) : ∀ (zs : List (Str × Int × Int)) (g : Int), (∀ z ∈ zs, z.2.2 ≤ g) → 0 ≤ g → (lft P zs).1 - g ≤ (lft P zs).2 ∧ 0 ≤ (lft P zs).2
  | [], g, _, h => by unfold lft; exact ⟨by omega, Int.le_refl 0⟩
  | z :: zs, g, hz, h => by
    have ih := lft_lo P zs g (fun y hy => hz y (List.mem_cons_of_mem _ hy)) h
    have := hz z List.mem_cons_self
    unfold lft
    split
    · dsimp only
      omega
    · exact ih
theorem lft_anti {P R : Str → Bool} (hs : ∀ m, R m = true → P m = true) : ∀ (zs : List (Str × Int × Int)), Falls zs → (lft P zs).2 - (lft P zs).1 ≤ (lft R zs).2 - (lft R zs).1
  | [], _ => by unfold lft; exact Int.le_refl _
  | z :: zs, h => by
    obtain ⟨h1, h2, h3, h4⟩ := h.tail
    have ih := lft_anti hs zs h1
    have lo := lft_lo R zs z.2.2 h2 h3
    unfold lft
    cases hR : R z.1 with
    | true =>
      rw [hs _ hR]
      simp only [if_true]
      omega
    | false =>
      cases hP : P z.1 with
      | true =>
        simp only [if_true, Bool.false_eq_true, if_false]
        omega
      | false =>
        simp only [Bool.false_eq_true, if_false]
        exact ih
theorem lft_sum (P Q : Str → Bool) : ∀ zs : List (Str × Int × Int), (lft P zs).1 + (lft Q zs).1 = (lft (fun m => P m || Q m) zs).1 + (lft (fun m => P m && Q m) zs).1
  | [] => rfl
  | z :: zs => by
    have ih := lft_sum P Q zs
    unfold lft
    cases hP : P z.1 <;> cases hQ : Q z.1 <;> simp only [Bool.or_true, Bool.or_false, Bool.and_true, Bool.and_false, if_true, Bool.false_eq_true, if_false] <;> omega
theorem lft_convex (P Q : Str → Bool) : ∀ zs : List (Str × Int × Int), Falls zs → (lft P zs).2 + (lft Q zs).2 ≤ (lft (fun m => P m || Q m) zs).2 + (lft (fun m => P m && Q m) zs).2
  | [], _ => Int.le_refl _
  | z :: zs, h => by
    obtain ⟨h1, h2, h3, h4⟩ := h.tail
    have ih := lft_convex P Q zs h1
    have sm := lft_sum P Q zs
    have a1 := lft_anti (P := P) (R := fun m => P m && Q m) (fun m h => (Bool.and_eq_true_iff.mp h).1) zs h1
    have a2 := lft_anti (P := Q) (R := fun m => P m && Q m) (fun m h => (Bool.and_eq_true_iff.mp h).2) zs h1
    have a3 := lft_anti (P := fun m => P m || Q m) (R := P) (fun m h => by rw [h]; rfl) zs h1
    have a4 := lft_anti (P := fun m => P m || Q m) (R := Q) (fun m h => by rw [h]; exact Bool.or_true _) zs h1
    unfold lft
    cases hP : P z.1 <;> cases hQ : Q z.1 <;> simp only [Bool.or_true, Bool.or_false, Bool.and_true, Bool.and_false, if_true, Bool.false_eq_true, if_false] <;> omega
theorem lft_congr {P Q : Str → Bool} (h : ∀ m, P m = Q m) (zs : List (Str × Int × Int)) : lft P zs = lft Q zs := by
  have : P = Q := funext h
  rw [this]
theorem lft_none : ∀ zs : List (Str × Int × Int), lft (fun m => decide (m ∈ ([] : List Str))) zs = (0, 0)
  | [] => rfl
  | z :: zs => by
    unfold lft
    rw [if_neg (by simp)]
    exact lft_none zs
/-- since falls in the order of opening -/
def GivenOk (a : Ac) : Prop := ∀ p ∈ a.given, 0 < p.2
theorem GivenOk.step {a : Ac} (h : GivenOk a) {d : Deed} (ok : okD d) : GivenOk (a.step d) := by
  intro p hp
  cases d with
  | op m n =>
    rcases List.mem_append.mp hp with hp | hp
    · exact h p hp
    · rw [List.mem_singleton.mp hp]; exact ok.2
  | days n => exact h p hp
  | pause n => exact h p hp
  | back m => exact h p (List.mem_filter.mp hp).1
theorem given_run {a : Ac} (h : GivenOk a) : ∀ {r : List Deed}, (∀ d ∈ r, okD d) → GivenOk (a.run r)
  | [], _ => h
  | d :: r, ok => given_run (h.step (ok d List.mem_cons_self)) fun x hx => ok x (List.mem_cons_of_mem _ hx)
def SinceOk (a : Ac) : Prop := a.since.Pairwise (fun p q => q.2 ≤ p.2) ∧ ∀ p ∈ a.since, 0 ≤ p.2
theorem SinceOk.step {a : Ac} (h : SinceOk a) {d : Deed} (ok : okD d) : SinceOk (a.step d) := by
  cases d with
  | op m n =>
    refine ⟨?_, fun p hp => ?_⟩
    · show (a.since ++ [(m, 0)]).Pairwise _
      rw [List.pairwise_append]
      refine ⟨h.1, by simp, fun p hp q hq => ?_⟩
      rw [List.mem_singleton.mp hq]; exact h.2 p hp
    · rcases List.mem_append.mp hp with hp | hp
      · exact h.2 p hp
      · rw [List.mem_singleton.mp hp]; exact Int.le_refl 0
  | days n =>
    have hn : 0 < n := ok
    refine ⟨?_, fun p hp => ?_⟩
    · show (a.since.map fun p => (p.1, p.2 + n)).Pairwise _
      rw [List.pairwise_map]
      exact h.1.imp fun hpq => by dsimp only; omega
    · obtain ⟨q, hq, rfl⟩ := List.mem_map.mp hp
      have := h.2 q hq
      dsimp only
      omega
  | pause n => exact h
  | back m => exact ⟨h.1.sublist List.filter_sublist, fun p hp => h.2 p (List.mem_filter.mp hp).1⟩
theorem since_run {a : Ac} (h : SinceOk a) : ∀ {r : List Deed}, (∀ d ∈ r, okD d) → SinceOk (a.run r)
  | [], _ => h
  | d :: r, ok => since_run (h.step (ok d List.mem_cons_self)) fun x hx => ok x (List.mem_cons_of_mem _ hx)
theorem ValidRow.falls {row : List Deed} (h : ValidRow row) : Falls (acOf row).zs := by
  have s : SinceOk (acOf row) := since_run (a := ac0) ⟨List.Pairwise.nil, fun p hp => by simp [ac0] at hp⟩ h.ok
  have gv : GivenOk (acOf row) := given_run (a := ac0) (fun p hp => by simp [ac0] at hp) h.ok
  obtain ⟨e0, e⟩ := zip_given h.good.keys
  have e0 : (acOf row).zs.map (fun z => (z.1, z.2.1)) = (acOf row).given := e0
  have e : (acOf row).zs.map (fun z => (z.1, z.2.2)) = (acOf row).since := e
  unfold SinceOk at s
  rw [← e, List.pairwise_map] at s
  exact ⟨s.1, fun z hz => ⟨s.2 (z.1, z.2.2) (List.mem_map.mpr ⟨z, hz, rfl⟩), gv (z.1, z.2.1) (by rw [← e0]; exact List.mem_map.mpr ⟨z, hz, rfl⟩)⟩⟩
theorem sortS_perm (ms : List Str) : (sortS ms).Perm ms := List.mergeSort_perm _ _
theorem sortS_nodup {ms : List Str} (h : ms.Nodup) : (sortS ms).Nodup := (sortS_perm ms).nodup_iff.mpr h
def ltS (a b : Str) : Prop := a.cps.toList < b.cps.toList
theorem leS_lt {a b : Str} (h : leS a b = true) (ne : a ≠ b) : ltS a b := by
  have h : a.cps.toList ≤ b.cps.toList := of_decide_eq_true h
  rcases List.le_iff_lt_or_eq.mp h with h | h
  · exact h
  · exact absurd (str_ext h) ne
theorem ltS_irrefl (a : Str) : ¬ ltS a a := List.lt_irrefl _
theorem ltS_trans {a b c : Str} (h : ltS a b) (k : ltS b c) : ltS a c := List.lt_trans h k
theorem sortS_le (ms : List Str) : (sortS ms).Pairwise (fun a b => leS a b = true) :=
  List.pairwise_mergeSort (le := leS) (fun a b c h1 h2 => decide_eq_true (List.le_trans (of_decide_eq_true h1) (of_decide_eq_true h2))) (fun a b => by
    rcases List.le_total a.cps.toList b.cps.toList with h | h
    · simp [leS, h]
    · simp [leS, h]) ms
theorem sortS_lt {ms : List Str} (h : ms.Nodup) : (sortS ms).Pairwise ltS := by
  have nd := sortS_nodup h
  exact ((sortS_le ms).and nd).imp fun ⟨h1, h2⟩ => leS_lt h1 h2
theorem sub_sorted : ∀ {l2 l1 : List Str}, l1.Pairwise ltS → l2.Pairwise ltS → (∀ x ∈ l1, x ∈ l2) → l1.Sublist l2
  | [], [], _, _, _ => .slnil
  | [], x :: l1, _, _, h => by have := h x List.mem_cons_self; simp at this
  | y :: l2, [], _, _, _ => List.nil_sublist _
  | y :: l2, x :: l1, h1, h2, h => by
    rw [List.pairwise_cons] at h1 h2
    by_cases e : x = y
    · subst e
      refine .cons_cons x (sub_sorted h1.2 h2.2 fun z hz => ?_)
      rcases List.mem_cons.mp (h z (List.mem_cons_of_mem _ hz)) with q | q
      · exact absurd (h1.1 z hz) (by rw [q]; exact ltS_irrefl _)
      · exact q
    · refine .cons y (sub_sorted (List.pairwise_cons.mpr h1) h2.2 fun z hz => ?_)
      have hx : x ∈ l2 := (List.mem_cons.mp (h x List.mem_cons_self)).resolve_left e
      have hyx : ltS y x := h2.1 x hx
      rcases List.mem_cons.mp (h z hz) with q | q
      · exfalso
        rcases List.mem_cons.mp hz with r | r
        · exact e (r ▸ q)
        · exact ltS_irrefl _ (ltS_trans hyx (q ▸ h1.1 z r))
      · exact q
end PP
set_option Elab.async false
set_option linter.all false
set_option maxRecDepth 100000
set_option maxHeartbeats 4000000
namespace PP
open PySem L2
def ky (s : List Str) : List Key := s.map Sum.inr
end PP
set_option Elab.async false
set_option linter.all false
set_option maxRecDepth 100000
namespace PP
open PySem L2
def N__law_same : List Str := ["_law_found", "_law_due"]
def c__law_same : List Sx := [(.ret (.cmp .eq (.bi .repr [(.var 0)]) (.bi .repr [(.var 1)])))]
def N_Account___eq__ : List Str := ["self", "other"]
def c_Account___eq__ : List Sx := [(.ret (.and (.isO (.var 1) "Account") (.cmp .eq (.att "Account" (.var 0) "deeds") (.att "Account" (.var 1) "deeds"))))]
def N_Account_row : List Str := ["self"]
def c_Account_row : List Sx := [(.ret (.bi .list [(.att "Account" (.var 0) "deeds")]))]
end PP
set_option Elab.async false
set_option linter.all false
set_option maxRecDepth 100000
set_option maxHeartbeats 4000000
namespace PP
open PySem L2 TL
def small : Deed → Prop
  | .op _ n => n < 10 ^ 100
  | .days n => n < 10 ^ 100
  | .pause n => n < 10 ^ 100
  | .back _ => True
theorem markOk_let {m : Str} (h : MarkOk m) : ∀ c ∈ tl m, 97 ≤ c ∧ c ≤ 122 := by
  intro c hc
  have := h.2.2 c hc
  have e : ∀ c ∈ letters.cps.toList, 97 ≤ c ∧ c ≤ 122 := by decide +kernel
  exact e c this
end PP
set_option Elab.async false
set_option linter.all false
set_option maxRecDepth 100000
set_option maxHeartbeats 4000000
namespace PP
open PySem L2 TL
theorem strOk_mark {m : Str} (h : MarkOk m) : PyData.strOk m = true := by
  unfold PyData.strOk
  rw [Array.all_eq_true']
  intro c hc
  have := markOk_let h c (Array.mem_toList_iff.mpr hc)
  simp; omega
theorem deed_lay {d : Deed} (h : okD d) : (pd d.d).canLay0 = true ∧ (pd d.d).depth = 1 := by
  have w1 : PyData.strOk ("open" : Str) = true := by decide +kernel
  have w2 : PyData.strOk ("days" : Str) = true := by decide +kernel
  have w3 : PyData.strOk ("pause" : Str) = true := by decide +kernel
  have w4 : PyData.strOk ("back" : Str) = true := by decide +kernel
  cases d with
  | op m n => simp [Deed.d, pd, pds, PyData.canLay0, PyData.canLayAll0, PyData.depth, PyData.depthAll, w1, strOk_mark h.1]
  | days n => simp [Deed.d, pd, pds, PyData.canLay0, PyData.canLayAll0, PyData.depth, PyData.depthAll, w2]
  | pause n => simp [Deed.d, pd, pds, PyData.canLay0, PyData.canLayAll0, PyData.depth, PyData.depthAll, w3]
  | back m => simp [Deed.d, pd, pds, PyData.canLay0, PyData.canLayAll0, PyData.depth, PyData.depthAll, w4, strOk_mark (show MarkOk m from h)]
theorem deeds_lay : ∀ {row : List Deed}, (∀ d ∈ row, okD d) → PyData.canLayAll0 (pds (row.map Deed.d)) = true ∧ PyData.depthAll (pds (row.map Deed.d)) ≤ 1
  | [], _ => ⟨rfl, Nat.zero_le _⟩
  | d :: r, h => by
    obtain ⟨h1, h2⟩ := deeds_lay (row := r) fun d hd => h d (List.mem_cons_of_mem _ hd)
    obtain ⟨h3, h4⟩ := deed_lay (h d List.mem_cons_self)
    refine ⟨?_, ?_⟩
    · simp only [List.map_cons, pds, PyData.canLayAll0, h3, h1, Bool.and_self]
    · simp only [List.map_cons, pds, PyData.depthAll, h4]
      omega
theorem deeds_shaped {row : List Deed} (h : ∀ d ∈ row, okD d) : SeqAt.shaped (pd (.tup (row.map Deed.d))) = true := by
  obtain ⟨h1, h2⟩ := deeds_lay h
  unfold SeqAt.shaped
  rw [Bool.and_eq_true]
  refine ⟨h1, decide_eq_true ?_⟩
  show PyData.depthAll (pds (row.map Deed.d)) + 1 ≤ 64
  omega
theorem deed_eqv (d e : Deed) : PyData.eqv (pd d.d) (pd e.d) = decide (d = e) := by
  cases d <;> cases e <;> simp [Deed.d, pd, pds, PyData.eqv, PyData.eqvAll]
  all_goals first
    | decide +kernel
    | (rename_i a b c f; by_cases h1 : a = c <;> by_cases h2 : b = f <;> simp [h1, h2])
    | (rename_i a b; by_cases h1 : a = b <;> simp [h1] <;> decide +kernel)
    | (rename_i a b; by_cases h1 : a = b <;> simp [h1])
    | skip
theorem deeds_eqv : ∀ r q : List Deed, PyData.eqvAll (pds (r.map Deed.d)) (pds (q.map Deed.d)) = decide (r = q)
  | [], [] => rfl
  | [], _ :: _ => rfl
  | _ :: _, [] => rfl
  | d :: r, e :: q => by
    simp only [List.map_cons, pds, PyData.eqvAll, deed_eqv, deeds_eqv r q]
    by_cases h1 : d = e <;> by_cases h2 : r = q <;> simp [h1, h2]
def conEq : Con := fun as c K _ => ∃ r q, as = [some (accD r), some (accD q)] ∧ ValidRow r ∧ ValidRow q ∧ K (.fz (.bl (decide (r = q)))) c
theorem p_eq {Γ : Env} : Impl Γ 2 conEq c_Account___eq__ := by
  intro as c K h
  obtain ⟨r, q, rfl, hr, hq, hk⟩ := h
  rw [← deeds_eqv] at hk
  conv => whnf
  refine And.intro rfl ?_
  conv => whnf
  refine And.intro rfl ?_
  conv => whnf
  refine And.intro rfl ?_
  conv => whnf
  refine And.intro ?_ hk
  show (SeqAt.shaped (pd (.tup (r.map Deed.d))) && SeqAt.shaped (pd (.tup (q.map Deed.d)))) = true
  rw [deeds_shaped hr.ok, deeds_shaped hq.ok]
  rfl
def conRowOf : Con := fun as c K _ => ∃ r, as = [some (accD r)] ∧ K (.nl (r.map Deed.d)) c
theorem p_rowOf {Γ : Env} : Impl Γ 1 conRowOf c_Account_row := by
  intro as c K h
  obtain ⟨r, rfl, hk⟩ := h
  conv => whnf
  refine And.intro rfl ?_
  conv => whnf
  exact hk
def conSame : Con := fun as c K _ => ∃ d e, as = [some d, some e] ∧ (reprOk d = true ∧ (ps d).shown.length ≤ sizeLine) ∧ (reprOk e = true ∧ (ps e).shown.length ≤ sizeLine) ∧ K (.fz (.bl (decide (V.str (ps d).shown = V.str (ps e).shown)))) c
theorem p_same {Γ : Env} : Impl Γ 2 conSame c__law_same := by
  intro as c K h
  obtain ⟨d, e, rfl, hd, he, hk⟩ := h
  conv => whnf
  refine And.intro hd ?_
  conv => whnf
  refine And.intro he ?_
  conv => whnf
  exact hk
end PP
set_option Elab.async false
set_option linter.all false
set_option maxRecDepth 100000
set_option maxHeartbeats 4000000
namespace PP
open PySem L2 TL
theorem sizeLine_big : 16000000 ≤ sizeLine := by decide
end PP
set_option Elab.async false
set_option linter.all false
set_option maxRecDepth 100000
set_option maxHeartbeats 4000000
namespace PP
open PySem L2 TL
def digits : Str := "0123456789"
end PP
set_option Elab.async false
set_option linter.all false
set_option maxRecDepth 100000
set_option maxHeartbeats 4000000
set_option Elab.async false
set_option linter.all false
set_option maxRecDepth 100000
set_option Elab.async false
set_option linter.all false
set_option maxRecDepth 100000
set_option maxHeartbeats 4000000
set_option Elab.async false
set_option linter.all false
set_option maxRecDepth 100000
set_option maxHeartbeats 4000000
set_option Elab.async false
set_option linter.all false
set_option maxRecDepth 100000
set_option maxHeartbeats 4000000
set_option Elab.async false
set_option linter.all false
set_option maxRecDepth 100000
set_option maxHeartbeats 4000000
namespace PP
open PySem L2
def glS (P : Str → Bool) (x : Int) : Deed → Int
  | .op m n => if P m then x + n else x
  | .days n => max 0 (x - n)
  | _ => x
def gl (P : Str → Bool) : Int → List Deed → Int
  | x, [] => x
  | x, d :: r => gl P (glS P x d) r
def inP (ms : List Str) : Str → Bool := fun m => decide (m ∈ ms)
end PP
set_option Elab.async false
set_option linter.all false
set_option maxRecDepth 100000
set_option maxHeartbeats 4000000
namespace PP
open PySem L2
theorem cut_from (xs : List D) {a : Nat} (h : a ≤ xs.length) : cutD xs (some (a : Int)) none = xs.drop a := by
  have e1 : HT.sIx xs.length 0 (some (a : Int)) = a := by
    rw [HT.sIx_nat]; omega
  have e2 : HT.sIx xs.length xs.length none = xs.length := rfl
  unfold cutD
  rw [e1, e2]
  exact List.take_of_length_le (by simp)
theorem cut_to (xs : List D) {a : Nat} (h : a ≤ xs.length) : cutD xs none (some (a : Int)) = xs.take a := by
  have e1 : HT.sIx xs.length 0 none = 0 := rfl
  have e2 : HT.sIx xs.length xs.length (some (a : Int)) = a := by
    rw [HT.sIx_nat]; omega
  unfold cutD
  rw [e1, e2]
  simp
def sufO (P : Str → Bool) : List Deed → Int
  | [] => 0
  | .op m n :: r => (if P m then n else 0) + sufO P r
  | _ :: r => sufO P r
def sufD : List Deed → Int
  | [] => 0
  | .days n :: r => n + sufD r
  | _ :: r => sufD r
end PP
set_option Elab.async false
set_option linter.all false
set_option maxRecDepth 100000
set_option maxHeartbeats 4000000
namespace PP
open PySem L2
abbrev Z3 := Str × Int × Int
theorem zz {α β γ δ : Type} (f : β → γ → δ) (g : α → β) (h : α → γ) : ∀ l : List α, List.zipWith f (l.map g) (l.map h) = l.map fun z => f (g z) (h z)
  | [] => rfl
  | x :: l => by simp [zz f g h l]
theorem zs_of {a : Ac} (l : List Z3) (h1 : a.given = l.map fun z => (z.1, z.2.1)) (h2 : a.since = l.map fun z => (z.1, z.2.2)) : a.zs = l := by
  unfold Ac.zs
  rw [h1, h2, zz]
  simp
theorem lft_snoc (P : Str → Bool) (m : Str) {n : Int} (hn : 0 ≤ n) : ∀ zs : List Z3, lft P (zs ++ [(m, n, 0)]) = if P m then ((lft P zs).1 + n, (lft P zs).2 + n) else lft P zs
  | [] => by
    simp only [List.nil_append, lft]
    split
    · simp; omega
    · rfl
  | z :: zs => by
    have ih := lft_snoc P m hn zs
    simp only [List.cons_append, lft, ih]
    by_cases hm : P m = true
    · simp only [hm, if_true]
      by_cases hz : P z.1 = true
      · simp only [hz, if_true]
        refine Prod.ext ?_ ?_
        · show (lft P zs).1 + n + z.2.1 = (lft P zs).1 + z.2.1 + n; omega
        · show max ((lft P zs).2 + n) ((lft P zs).1 + n + z.2.1 - z.2.2) = max (lft P zs).2 ((lft P zs).1 + z.2.1 - z.2.2) + n; omega
      · simp only [hz]; rfl
    · simp only [hm]; rfl
theorem lft_days (P : Str → Bool) {n : Int} (hn : 0 ≤ n) : ∀ zs : List Z3, lft P (zs.map fun z => (z.1, z.2.1, z.2.2 + n)) = ((lft P zs).1, max 0 ((lft P zs).2 - n))
  | [] => by simp only [List.map_nil, lft]; refine Prod.ext rfl ?_; show (0 : Int) = max 0 (0 - n); omega
  | z :: zs => by
    have ih := lft_days P hn zs
    simp only [List.map_cons, lft, ih]
    by_cases hz : P z.1 = true
    · simp only [hz, if_true]
      refine Prod.ext rfl ?_
      show max (max 0 ((lft P zs).2 - n)) ((lft P zs).1 + z.2.1 - (z.2.2 + n)) = max 0 (max (lft P zs).2 ((lft P zs).1 + z.2.1 - z.2.2) - n)
      omega
    · simp only [hz]; rfl
theorem lft_filter (P : Str → Bool) {m : Str} (hm : P m = false) : ∀ zs : List Z3, lft P (zs.filter fun z => decide (z.1 ≠ m)) = lft P zs
  | [] => rfl
  | z :: zs => by
    have ih := lft_filter P hm zs
    by_cases e : z.1 = m
    · rw [List.filter_cons_of_neg (by simp [e]), ih]
      simp only [lft, e, hm]; rfl
    · rw [List.filter_cons_of_pos (by simp [e])]
      simp only [lft, ih]
theorem step_lft {P : Str → Bool} {a : Ac} (g : a.good) {d : Deed} (ok : okD d) (ha : a.ok d) (hb : ∀ m, d = .back m → P m = false) : (lft P (a.step d).zs).2 = glS P (lft P a.zs).2 d ∧ (a.step d).good := by
  refine ⟨?_, g.step ha⟩
  obtain ⟨eg, es⟩ := zip_given g.keys
  have eg : a.given = a.zs.map fun z => (z.1, z.2.1) := eg.symm
  have es : a.since = a.zs.map fun z => (z.1, z.2.2) := es.symm
  cases d with
  | op m n =>
    have hz : (a.step (.op m n)).zs = a.zs ++ [(m, n, 0)] := zs_of _ (by simp [Ac.step, eg]) (by simp [Ac.step, es])
    rw [hz, lft_snoc P m (by have := ok.2; omega)]
    show _ = (if P m = true then (lft P a.zs).2 + n else (lft P a.zs).2)
    split <;> rfl
  | days n =>
    have hz : (a.step (.days n)).zs = a.zs.map fun z => (z.1, z.2.1, z.2.2 + n) := zs_of _ (by simp [Ac.step, eg, List.map_map]) (by simp [Ac.step, es, List.map_map])
    rw [hz, lft_days P (by have : 0 < n := ok; omega)]
    rfl
  | pause n => rfl
  | back m =>
    have hz : (a.step (.back m)).zs = a.zs.filter fun z => decide (z.1 ≠ m) := zs_of _ (by simp only [Ac.step]; rw [eg, List.filter_map]; rfl) (by simp only [Ac.step]; rw [es, List.filter_map]; rfl)
    rw [hz, lft_filter P (hb m rfl)]
    rfl
theorem gl_run {P : Str → Bool} : ∀ (r : List Deed) (a : Ac), a.good → (∀ d ∈ r, okD d) → a.oks r → (∀ m ∈ r.flatMap backs, P m = false) → gl P (lft P a.zs).2 r = (lft P (a.run r).zs).2
  | [], a, _, _, _, _ => rfl
  | d :: r, a, g, ok, ha, hb => by
    obtain ⟨h1, h2⟩ := step_lft (P := P) g (ok d (by simp)) ha.1 (fun m e => hb m (by rw [e]; simp [backs]))
    show gl P (glS P (lft P a.zs).2 d) r = _
    rw [← h1]
    exact gl_run r (a.step d) h2 (fun x hx => ok x (by simp [hx])) ha.2 (fun m hm => hb m (by simp [hm]))
theorem gl_left {row : List Deed} (hv : ValidRow row) {ms : List Str} (hm : ∀ m ∈ ms, m ∈ marksOf row) : gl (inP ms) 0 row = leftV row ms := by
  have h := gl_run (P := inP ms) row ac0 good0 hv.ok (vd_oks hv.vd) fun m hb => by
    unfold inP
    rw [decide_eq_false_iff_not]
    intro hin
    have q := hm m hin
    rw [(count_marks row hv.vd).1, List.mem_filter] at q
    exact (of_decide_eq_true q.2) hb
  exact h
theorem gl_nonneg {P : Str → Bool} : ∀ (r : List Deed) (x : Int), (∀ d ∈ r, okD d) → 0 ≤ x → 0 ≤ gl P x r
  | [], x, _, h => h
  | d :: r, x, ok, h => by
    refine gl_nonneg r _ (fun e he => ok e (by simp [he])) ?_
    cases d with
    | op m n =>
      have : 0 < n := (ok _ (by simp) : okD (.op m n)).2
      show 0 ≤ (if P m = true then x + n else x)
      split <;> omega
    | days n => show 0 ≤ max 0 (x - n); omega
    | pause n => exact h
    | back m => exact h
theorem gl_app (P : Str → Bool) : ∀ (r1 r2 : List Deed) (x : Int), gl P x (r1 ++ r2) = gl P (gl P x r1) r2
  | [], _, _ => rfl
  | d :: r1, r2, x => gl_app P r1 r2 (glS P x d)
/-- what gl is made of: nothing, or the candidate of an opening -/
def Cand (P : Str → Bool) (r : List Deed) (v : Int) : Prop := v = 0 ∨ ∃ r1 m n r2, r = r1 ++ .op m n :: r2 ∧ P m = true ∧ v = sufO P (.op m n :: r2) - sufD (.op m n :: r2)
theorem Cand.cons {P : Str → Bool} {r : List Deed} {v : Int} (d : Deed) (h : Cand P r v) : Cand P (d :: r) v :=
  h.imp id fun ⟨r1, m, n, r2, e, hp, hv⟩ => ⟨d :: r1, m, n, r2, by rw [e]; rfl, hp, hv⟩
end PP
set_option Elab.async false
set_option linter.all false
set_option maxRecDepth 100000
set_option maxHeartbeats 4000000
namespace PP
open PySem L2 TL
structure OkR (r : List Deed) : Prop where
  v : ValidRow r
  s : ∀ d ∈ r, small d
  l : r.length ≤ 1000
theorem OkR.b {r : List Deed} (h : OkR r) : ∀ d ∈ r, okD d ∧ small d := fun d hd => ⟨h.v.ok d hd, h.s d hd⟩
theorem gl_bound {P : Str → Bool} : ∀ (r : List Deed) (x : Int), (∀ d ∈ r, okD d ∧ small d) → 0 ≤ x → gl P x r ≤ x + r.length * 10 ^ 100
  | [], x, _, h => by show x ≤ x + (0 : Nat) * 10 ^ 100; omega
  | d :: r, x, ok, h => by
    have okd := ok d (by simp)
    have h0 : 0 ≤ glS P x d := gl_nonneg [d] x (fun e he => by rw [List.mem_singleton.mp he]; exact okd.1) h
    have ih := gl_bound (P := P) r (glS P x d) (fun e he => ok e (by simp [he])) h0
    have h1 : glS P x d ≤ x + 10 ^ 100 := by
      cases d with
      | op m n =>
        have : n < 10 ^ 100 := okd.2
        have : 0 < n := okd.1.2
        show (if P m = true then x + n else x) ≤ _
        split <;> omega
      | days n =>
        have : 0 < n := okd.1
        show max 0 (x - n) ≤ _; omega
      | pause n => show x ≤ _; omega
      | back m => show x ≤ _; omega
    show gl P (glS P x d) r ≤ x + ((r.length + 1 : Nat) : Int) * 10 ^ 100
    have e : ((r.length + 1 : Nat) : Int) * 10 ^ 100 = r.length * 10 ^ 100 + 10 ^ 100 := by rw [Int.natCast_add, Int.add_mul]; rfl
    omega
theorem int_shown {n : Int} (h0 : 0 ≤ n) (h2 : n < 10 ^ 110) : (PyData.shown (.int n)).length ≤ 110 := by
  have e : n = ((n.toNat : Nat) : Int) := by omega
  show (Str.ofString (toString n)).length ≤ 110
  rw [len_tl, e, tl_num]
  refine numL_len (by decide) ?_
  have : ((n.toNat : Nat) : Int) < ((10 ^ 110 : Nat) : Int) := by rw [← e]; exact h2
  exact Int.ofNat_lt.mp this
theorem int_log {n : Int} (h0 : 0 ≤ n) (h2 : n < 10 ^ 110) : n.natAbs.log2 < 1920 := by
  by_cases e : n.natAbs = 0
  · rw [e]; decide
  · refine (Nat.log2_lt e).mpr ?_
    have h : n.natAbs < 10 ^ 110 := by
      have : ((n.natAbs : Nat) : Int) < ((10 ^ 110 : Nat) : Int) := by rw [Int.natAbs_of_nonneg h0]; exact h2
      exact Int.ofNat_lt.mp this
    exact Nat.lt_of_lt_of_le h (by decide +kernel)
theorem OkR.left {r : List Deed} (h : OkR r) {ms : List Str} (hm : ∀ m ∈ ms, m ∈ marksOf r) : 0 ≤ leftV r ms ∧ leftV r ms < 10 ^ 110 := by
  rw [← gl_left h.v hm]
  refine ⟨gl_nonneg r 0 h.v.ok (Int.le_refl 0), ?_⟩
  have q := gl_bound (P := inP ms) r 0 h.b (Int.le_refl 0)
  have e : (r.length : Int) * 10 ^ 100 ≤ 1000 * 10 ^ 100 := Int.mul_le_mul_of_nonneg_right (by have := h.l; omega) (by decide)
  have e2 : (1000 : Int) * 10 ^ 100 < 10 ^ 110 := by decide
  omega
end PP
set_option Elab.async false
set_option linter.all false
set_option maxRecDepth 100000
set_option maxHeartbeats 4000000
namespace PP
open PySem L2
def lamQ (x : Str) : Str := x ++ ".<locals>." ++ "<lambda>"
def tbOf (tf : List He.Defn) (K : PySem.W.Frag) : List (Addr × Str) := tf.map fun p => ((He.cT K p).2, lamQ p.1)
section
variable {P : Program} {w : World} {K : PySem.W.Frag} {mg : Str → Option Value} {base : Heap} {params : Arguments} {body : List Stmt} {scope : Scope} {kws : List (Str × V)} {f : Addr} {fd : FuncData}
theorem tabE_law {N : List Str} {cdv : Value} {A : Around} {outer : List PySem.Env} {s : Shared} {H : Hp} {E : XK} {F : Fm} {G : Gc} (hG : F.G = G) (hT : G.tb = tbOf [("law", none)] K)
    (hc : cdv = .ref (He.cT K ("law", none)).1) (tb : ∀ p ∈ [(("law" : Str), (none : Option Str))].map (He.cT K), LamX.TabB base mg p.1 p.2) : TabE (cxOf CX0 P w K mg base N "law" scope f cdv A outer s H E).nox F := by
  refine ⟨(He.cT K ("law", none)).1, (He.cT K ("law", none)).2, tb _ (by simp), hc, ?_, ?_⟩
  · rw [hG, hT]; exact List.mem_singleton.mpr rfl
  · rw [hG, hT]
    intro p hp _
    rw [List.mem_singleton.mp hp]; rfl
theorem tabs0 {tf : List He.Defn} {H : Hp} (h : ∀ p ∈ tf.map (He.cT K), H p.2 = some (.tbl #[])) : LamX.Tabs (tbOf tf K) H := fun p hp => by
  obtain ⟨q, hq, rfl⟩ := List.mem_map.mp hp
  exact LamX.TabS.nil (h _ (List.mem_map.mpr ⟨q, hq, rfl⟩))
theorem fnO_X {G : Gc} {Γ : Env} {N ps : List Str} {k : Nat} {con : Con} {code : List Sx} {x qual : Str} {dvs : List V} (F : FunD K x qual params body scope dvs kws f fd) (S : FnScope N ps scope) (hN : ps.length ≤ N.length) (hK : K = G.K)
    (hd : ∀ (cdv : Value) (A : Around) (outer : List PySem.Env) (s : Shared) (H : Hp) (E : XK) (Fm : Fm) (Ex : XC), Fm.G = G → Gd (cxOf (L2.CX P w) P w K mg base N qual scope f cdv A outer s H E) Fm Ex → RoomG k (A.deeper (PyProof.Rows.envOfC qual scope s.heap.objs.size f cdv)) →
      SBX (cxOf (L2.CX P w) P w K mg base N qual scope f cdv A outer s H E) Fm Ex Γ body code)
    (hp : ImplX Γ N.length con code) : FnOg P w K mg base (L2.CX P w) (k + 1) f fd ps (liftSp G ps.length con) := fn_pureX F S hN hK hd hp
theorem fnO_P {G : Gc} {Γ : Env} {N ps : List Str} {k : Nat} {con : Con} {code : List Sx} {x qual : Str} {dvs : List V} (F : FunD K x qual params body scope dvs kws f fd) (S : FnScope N ps scope) (hN : ps.length ≤ N.length) (hK : K = G.K)
    (hd : ∀ (cdv : Value) (A : Around) (outer : List PySem.Env) (s : Shared) (H : Hp) (E : XK) (Fm : Fm), Fm.G = G → Gd (cxOf CX0 P w K mg base N qual scope f cdv A outer s H E).nox Fm noX → RoomG k (A.deeper (PyProof.Rows.envOfC qual scope s.heap.objs.size f cdv)) →
      SBX (cxOf CX0 P w K mg base N qual scope f cdv A outer s H E).nox Fm noX Γ body code)
    (hp : Impl Γ N.length con code) (hI : NoErr con) : FnOg P w K mg base (L2.CX P w) (k + 1) f fd ps (liftSp G ps.length con) := (fn_pure F S hN hK hd hp hI).cx
theorem fnE_0 {G : Gc} {ps : List Str} {k : Nat} {con : Con} {x qual : Str} {dvs : List V} (F : FunD K x qual params body scope dvs kws f fd) (O : FnOg P w K mg base (L2.CX P w) k f fd ps (liftSp G ps.length con)) (hm : mg x = some (.ref f)) (hb : Binds K fd ps [])
    (hl : ∀ as c K e, con as c K e → as.length = ps.length) (dfl : List D) : FnE P w K mg base G k x con dfl 0 :=
  ⟨f, fd, ps, [], [], O, hm, F.kp, hb, .nil, hl, fun _ _ _ => by unfold dflTail; simp; exact .nil⟩
theorem mtE_0 {G : Gc} {ps : List Str} {k : Nat} {con : Con} {c m qual : Str} {dvs : List V} (F : FunD K m qual params body scope dvs kws f fd) (O : FnOg P w K mg base (L2.CX P w) k f fd ps (liftSp G ps.length con)) (hc : Cls K (G.ga c)) (hm : Meth K (G.ga c) m f) (hb : Binds K fd ps [])
    (hl : ∀ as c K e, con as c K e → as.length = ps.length) (dfl : List D) : MtE P w K mg base G k c m con dfl 0 :=
  ⟨f, fd, ps, [], [], O, hc, hm, hb, .nil, hl, fun _ _ _ => by unfold dflTail; simp; exact .nil⟩
end
end PP
set_option Elab.async false
set_option linter.all false
set_option maxRecDepth 100000
set_option maxHeartbeats 4000000
set_option Elab.async false
set_option linter.all false
set_option maxRecDepth 100000
set_option maxHeartbeats 4000000
namespace PP
open PySem L2
def wo (ms : List Str) (m : Str) : List Str := ms.filter fun x => decide (x ≠ m)
def bringV (row : List Deed) (ms : List Str) (m : Str) : Int := leftV row ms - leftV row (wo ms m)
end PP
set_option Elab.async false
set_option linter.all false
set_option maxRecDepth 100000
set_option maxHeartbeats 4000000
namespace PP
open PySem L2
theorem lft_on {P Q : Str → Bool} : ∀ {zs : List Z3}, (∀ z ∈ zs, P z.1 = Q z.1) → lft P zs = lft Q zs
  | [], _ => rfl
  | z :: zs, h => by
    have ih := lft_on (P := P) (Q := Q) (zs := zs) fun y hy => h y (by simp [hy])
    simp only [lft, ih, h z (by simp)]
theorem lft_skip {R : Str → Bool} : ∀ {pre post : List Z3}, (∀ z ∈ pre, R z.1 = false) → lft R (pre ++ post) = lft R post
  | [], _, _ => rfl
  | z :: pre, post, h => by
    have ih := lft_skip (R := R) (pre := pre) (post := post) fun y hy => h y (by simp [hy])
    rw [List.cons_append]
    simp only [lft, h z (by simp), ih]
    rfl
theorem bring_zs {P Q : Str → Bool} {m : Str} {n s : Int} {post : List Z3} (hP : P m = true) (hQ : Q m = false) (hpost : ∀ z ∈ post, P z.1 = Q z.1) : ∀ {pre : List Z3}, Falls (pre ++ (m, n, s) :: post) → (∀ z ∈ pre, P z.1 = Q z.1) →
    (lft P (pre ++ (m, n, s) :: post)).1 = (lft Q (pre ++ (m, n, s) :: post)).1 + n ∧
      (((lft Q (pre ++ (m, n, s) :: post)).2 = (lft P post).2 ∧ (lft P (pre ++ (m, n, s) :: post)).2 ≤ (lft P post).2 + n ∧ (lft P post).2 ≤ (lft P (pre ++ (m, n, s) :: post)).2) ∨
        ((lft P (pre ++ (m, n, s) :: post)).2 = (lft Q (pre ++ (m, n, s) :: post)).2 + n ∧ (lft P post).2 ≤ (lft Q (pre ++ (m, n, s) :: post)).2))
  | [], hf, _ => by
    obtain ⟨f1, f2, f3, f4⟩ := hf.tail
    have f2 : ∀ y ∈ post, y.2.2 ≤ s := f2
    have f3 : 0 ≤ s := f3
    have f4 : 0 < n := f4
    have lo := lft_lo P post s f2 f3
    have e : lft Q post = lft P post := (lft_on hpost).symm
    rw [List.nil_append]
    simp only [lft, hP, hQ, e, if_true]
    refine ⟨?_, .inl ⟨?_, ?_, ?_⟩⟩
    · show (lft P post).1 + n = (lft P post).1 + n; rfl
    · rfl
    · show max (lft P post).2 ((lft P post).1 + n - s) ≤ _; omega
    · show _ ≤ max (lft P post).2 ((lft P post).1 + n - s); omega
  | z :: pre, hf, hpre => by
    have hf : Falls (z :: (pre ++ (m, n, s) :: post)) := hf
    obtain ⟨f1, _⟩ := hf.tail
    obtain ⟨h1, h2⟩ := bring_zs hP hQ hpost f1 fun y hy => hpre y (by simp [hy])
    have hz := hpre z (by simp)
    rw [List.cons_append]
    by_cases hp : P z.1 = true
    · have hq : Q z.1 = true := by rw [← hz]; exact hp
      simp only [lft, hp, hq, if_true]
      refine ⟨?_, ?_⟩
      · show (lft P (pre ++ (m, n, s) :: post)).1 + z.2.1 = (lft Q (pre ++ (m, n, s) :: post)).1 + z.2.1 + n
        omega
      · show (max (lft Q (pre ++ (m, n, s) :: post)).2 ((lft Q (pre ++ (m, n, s) :: post)).1 + z.2.1 - z.2.2) = _ ∧ max (lft P (pre ++ (m, n, s) :: post)).2 ((lft P (pre ++ (m, n, s) :: post)).1 + z.2.1 - z.2.2) ≤ _ ∧ _ ≤ max (lft P (pre ++ (m, n, s) :: post)).2 ((lft P (pre ++ (m, n, s) :: post)).1 + z.2.1 - z.2.2)) ∨
          (max (lft P (pre ++ (m, n, s) :: post)).2 ((lft P (pre ++ (m, n, s) :: post)).1 + z.2.1 - z.2.2) = max (lft Q (pre ++ (m, n, s) :: post)).2 ((lft Q (pre ++ (m, n, s) :: post)).1 + z.2.1 - z.2.2) + n ∧ _ ≤ max (lft Q (pre ++ (m, n, s) :: post)).2 ((lft Q (pre ++ (m, n, s) :: post)).1 + z.2.1 - z.2.2))
        omega
    · have hp' : P z.1 = false := by simpa using hp
      have hq : Q z.1 = false := by rw [← hz]; exact hp'
      simp only [lft, hp', hq]
      exact ⟨h1, h2⟩
/-- the marks behind m -/
def laterV (marks some_ : List Str) (m : Str) : List Str := some_.filter fun x => decide (marks.idxOf m < marks.idxOf x)
theorem zs_marks {a : Ac} (g : a.good) : a.zs.map (·.1) = a.given.map (·.1) := by
  obtain ⟨eg, es⟩ := zip_given g.keys
  have eg : a.given = a.zs.map fun z => (z.1, z.2.1) := eg.symm
  rw [eg, List.map_map]; rfl
theorem mem_wo {ms : List Str} {m x : Str} : x ∈ wo ms m ↔ x ∈ ms ∧ x ≠ m := by simp [wo, List.mem_filter]
theorem bring_min {row : List Deed} (hv : ValidRow row) {ms : List Str} (hms : ∀ m ∈ ms, m ∈ marksOf row) {m : Str} (hm : m ∈ ms) : ∃ n, (m, n) ∈ (acOf row).given ∧ bringV row ms m = min n (leftV row ms - leftV row (laterV (marksOf row) ms m)) ∧ 0 ≤ bringV row ms m := by
  have gd := hv.good
  have nd : (marksOf row).Nodup := gd.nodup
  have zm : (acOf row).zs.map (·.1) = marksOf row := zs_marks gd
  have h1 : m ∈ (acOf row).zs.map (·.1) := by rw [zm]; exact hms m hm
  obtain ⟨⟨k, n, s⟩, hz, e⟩ := List.mem_map.mp h1
  have e : k = m := e
  subst e
  obtain ⟨pre, post, hs⟩ := List.append_of_mem hz
  have mk : marksOf row = pre.map (·.1) ++ k :: post.map (·.1) := by rw [← zm, hs]; simp
  rw [mk, List.nodup_append] at nd
  obtain ⟨n1, n2, n3⟩ := nd
  rw [List.nodup_cons] at n2
  have npre : ∀ z ∈ pre, z.1 ≠ k := fun z hz e => n3 z.1 (List.mem_map.mpr ⟨z, hz, rfl⟩) k (by simp) e
  have npost : ∀ z ∈ post, z.1 ≠ k := fun z hz e => n2.1 (List.mem_map.mpr ⟨z, hz, e⟩)
  have hf : Falls (pre ++ (k, n, s) :: post) := by rw [← hs]; exact hv.falls
  have pq : ∀ z : Z3, z.1 ≠ k → decide (z.1 ∈ ms) = decide (z.1 ∈ wo ms k) := fun z hz => decide_eq_decide.mpr (by rw [mem_wo]; exact ⟨fun h => ⟨h, hz⟩, fun h => h.1⟩)
  obtain ⟨b1, b2⟩ := bring_zs (P := fun x => decide (x ∈ ms)) (Q := fun x => decide (x ∈ wo ms k)) (m := k) (n := n) (s := s) (post := post) (pre := pre) (by simpa using hm) (by simp [mem_wo]) (fun z hz => pq z (npost z hz)) hf (fun z hz => pq z (npre z hz))
  have ik : (marksOf row).idxOf k = pre.length := by
    rw [mk, List.idxOf_append, if_neg (fun h => n3 k h k (by simp) rfl)]
    simp
  have later : leftV row (laterV (marksOf row) ms k) = (lft (fun x => decide (x ∈ ms)) post).2 := by
    unfold leftV
    rw [hs, List.append_cons, lft_skip (R := fun x => decide (x ∈ laterV (marksOf row) ms k))]
    · rw [lft_on (Q := fun x => decide (x ∈ ms)) fun z hz => ?_]
      refine decide_eq_decide.mpr ?_
      unfold laterV
      rw [List.mem_filter]
      refine ⟨fun h => h.1, fun h => ⟨h, decide_eq_true ?_⟩⟩
      rw [ik, mk, List.idxOf_append, if_neg (fun h => n3 z.1 h z.1 (List.mem_cons_of_mem _ (List.mem_map.mpr ⟨z, hz, rfl⟩)) rfl)]
      have hk : (k == z.1) = false := by simpa using (npost z hz).symm
      rw [List.idxOf_cons, hk]
      simp
    · intro z hz
      rw [decide_eq_false_iff_not]
      unfold laterV
      rw [List.mem_filter, ik]
      rintro ⟨_, h⟩
      have h := of_decide_eq_true h
      rcases List.mem_append.mp hz with hz | hz
      · have hzm : z.1 ∈ pre.map (·.1) := List.mem_map.mpr ⟨z, hz, rfl⟩
        rw [mk, List.idxOf_append, if_pos hzm] at h
        have := List.idxOf_lt_length_of_mem hzm
        rw [List.length_map] at this
        omega
      · rw [List.mem_singleton.mp hz] at h
        have h : pre.length < (marksOf row).idxOf k := h
        omega
  refine ⟨n, ?_, ?_, ?_⟩
  · obtain ⟨eg, _⟩ := zip_given gd.keys
    have eg : (acOf row).given = (acOf row).zs.map fun z => (z.1, z.2.1) := eg.symm
    rw [eg, hs]
    simp
  · rw [later]
    unfold bringV leftV
    rw [hs]
    omega
  · have : 0 < n := (hf.2 (k, n, s) (by simp)).2
    unfold bringV leftV
    rw [hs]
    omega
end PP
set_option Elab.async false
set_option linter.all false
set_option maxRecDepth 100000
set_option maxHeartbeats 4000000
set_option Elab.async false
set_option linter.all false
set_option maxRecDepth 100000
set_option maxHeartbeats 4000000
namespace PP
open PySem L2
structure RowK (row : List Deed) : Prop where
  ok : OkR row
  nd : (row.flatMap opens).Nodup
  l6 : (marksOf row).length ≤ 8
  str : ∀ m ∈ marksOf row, PyData.strOk m = true
theorem RowK.bring {row : List Deed} (h : RowK row) {ms : List Str} (hms : ∀ m ∈ ms, m ∈ marksOf row) {m : Str} (hm : m ∈ ms) : 0 ≤ bringV row ms m ∧ bringV row ms m < 10 ^ 110 := by
  obtain ⟨_, _, _, h0⟩ := bring_min h.ok.v hms hm
  refine ⟨h0, ?_⟩
  have a := h.ok.left hms
  have b := h.ok.left (ms := wo ms m) fun x hx => hms x (mem_wo.mp hx).1
  unfold bringV
  omega
end PP
set_option Elab.async false
set_option linter.all false
set_option maxRecDepth 100000
set_option maxHeartbeats 4000000
namespace PP
open PySem L2
/-- how much m brings among all -/
def brZ (zs : List Z3) (m : Str) : Int := (lft (fun _ => true) zs).2 - (lft (fun x => decide (x ≠ m)) zs).2
theorem bring_br {row : List Deed} (hv : ValidRow row) (m : Str) : bringV row (marksOf row) m = brZ (acOf row).zs m := by
  have zm : (acOf row).zs.map (·.1) = marksOf row := zs_marks hv.good
  have hin : ∀ z ∈ (acOf row).zs, z.1 ∈ marksOf row := fun z hz => by rw [← zm]; exact List.mem_map.mpr ⟨z, hz, rfl⟩
  unfold bringV brZ leftV
  rw [lft_on (P := fun x => decide (x ∈ marksOf row)) (Q := fun _ => true) fun z hz => by simpa using hin z hz]
  rw [lft_on (P := fun x => decide (x ∈ wo (marksOf row) m)) (Q := fun x => decide (x ≠ m)) fun z hz => decide_eq_decide.mpr (by rw [mem_wo]; exact ⟨fun h => h.2, fun h => ⟨hin z hz, h⟩⟩)]
theorem run_app (a : Ac) : ∀ r q : List Deed, a.run (r ++ q) = (a.run r).run q
  | [], _ => rfl
  | d :: r, q => run_app (a.step d) r q
end PP
set_option Elab.async false
set_option linter.all false
set_option maxRecDepth 100000
set_option maxHeartbeats 4000000
namespace PP
open PySem L2
section
variable {F : Fm} {E : XC}
theorem asgF_ok {i : Nat} {f : M R} {D : Ends} {σ : L2.St} {H : Hp} (hi : i < σ.length) (h : LS F E (mS (bnd (toD f) fun d => store i (.fz d))) D σ H) : tAsg (LR F E f) (gName i) D σ H := by
  obtain ⟨ow, s, n, R, w, he, ct⟩ := h
  subst he
  refine ⟨F.Z0, ow, s, _, R, w, fun r s1 v1 H1 ow1 w1 rr e1 => ?_⟩
  obtain ⟨nio, w1⟩ := (show isIo (gt s1.sl i) = false ∧ n.nx (setS i (.fz r.d) s1) from w1)
  obtain ⟨R1, z1⟩ := rr.fz' R
  obtain ⟨ow2, R2, o2⟩ := R1.put (r := .fz r.d) (Hs := H) ⟨R1, z1⟩ nio hi
  exact ct.nx _ _ _ ow2 w1 R2 (e1.put o2) (set_len _ _ _)
end
section
variable {X : Cx} {F : Fm} {E : XC} {Γ : Env} {a b c tg : Expr} {ia ib ic : Ex} {pos : Pos}
theorem ss_asgF (g : Gd X F E) (i : Nat) {x : Str} {pos' : Pos} (ha : SX X F E Γ a ia) (hi : X.N[i]? = some x := by rfl) (hx : Loc X.env.scope x := by first | exact Or.inl rfl | exact Or.inr rfl) (hs : swapsWith a (some (.Name x pos')) pos.line X.env = pure false := by rfl) (hf : X.fn x = true ∨ X.env.scope.names.lookup x = some .local := by first | exact .inl rfl | exact .inr rfl) :
    SSX X F E Γ (.Assign [.Name x pos'] a pos) (.asgF i ia) := PSimp (ps_len (ps_set (i := i) g.nd hi hx ha hs hf)) fun D σ H h hl => asgF_ok (by rw [hl]; exact (List.getElem?_eq_some_iff.mp hi).1) h
end
end PP
set_option Elab.async false
set_option linter.all false
set_option maxRecDepth 100000
set_option maxHeartbeats 4000000
set_option Elab.async false
set_option linter.all false
set_option maxRecDepth 100000
set_option maxHeartbeats 4000000
set_option Elab.async false
set_option linter.all false
set_option maxRecDepth 100000
set_option maxHeartbeats 4000000
set_option Elab.async false
set_option linter.all false
set_option maxRecDepth 100000
set_option maxHeartbeats 4000000
namespace PP
open PySem L2
/-- for i in range: so many turns are left -/
theorem forR {tg : Tg} {body : QS} {n : En} (I : Nat → S → Prop) (hend : ∀ s, I 0 s → n.nx s)
    (step : ∀ j (i : Int) s, I (j + 1) s → ∀ N : S → Prop, (∀ s', I j s' → N s') → bindT tg (.int i) s (fun _ s1 => body { n with nx := N, ct := N, bk := n.nx } s1) n.ex) : ∀ (m : Nat) (lo : Int) (s : S), I m s → forGo tg body (rangeD lo m) n s
  | 0, _, s, h => hend s h
  | m + 1, lo, s, h => step m lo s h _ fun s' h' => forR I hend step m (lo + 1) s' h'
end PP
set_option Elab.async false
set_option linter.all false
set_option maxRecDepth 100000
set_option maxHeartbeats 4000000
set_option Elab.async false
set_option linter.all false
set_option maxRecDepth 100000
set_option maxHeartbeats 4000000
set_option Elab.async false
set_option linter.all false
set_option maxRecDepth 100000
set_option maxHeartbeats 4000000
namespace PP
open PySem L2
inductive SimD : Deed → Deed → Prop
  | op (m : Str) (n k : Int) : SimD (.op m n) (.op m k)
  | days (n k : Int) : SimD (.days n) (.days k)
  | pause (n k : Int) : SimD (.pause n) (.pause k)
  | back (m : Str) : SimD (.back m) (.back m)
inductive Sims : List Deed → List Deed → Prop
  | nil : Sims [] []
  | cons {d e : Deed} {r q : List Deed} : SimD d e → Sims r q → Sims (d :: r) (e :: q)
theorem Sims.len {r q : List Deed} (h : Sims r q) : q.length = r.length := by
  induction h with
  | nil => rfl
  | cons _ _ ih => rw [List.length_cons, List.length_cons, ih]
theorem sim_keys {a b : Ac} (h : b.given.map (·.1) = a.given.map (·.1)) {d e : Deed} (s : SimD d e) : (b.step e).given.map (·.1) = (a.step d).given.map (·.1) := by
  cases s with
  | op m n k => simp only [Ac.step, List.map_append, h]; rfl
  | days n k => exact h
  | pause n k => exact h
  | back m =>
    have e : ∀ l : List (Str × Int), (l.filter fun p => decide (p.1 ≠ m)).map (·.1) = (l.map (·.1)).filter fun x => decide (x ≠ m) := fun l => by rw [List.filter_map]; rfl
    simp only [Ac.step]
    rw [e, e, h]
theorem vd_sim {r q : List Deed} (h : Sims r q) : ∀ {op : List Str} {a b : Ac}, b.given.map (·.1) = a.given.map (·.1) → vd op a r → vd op b q ∧ (b.run q).given.map (·.1) = (a.run r).given.map (·.1) := by
  induction h with
  | nil => exact fun e _ => ⟨trivial, e⟩
  | @cons d e r q s _ ih =>
    intro op a b hk hv
    obtain ⟨v1, v2, v3⟩ := hv
    have eo : PP.opens e = PP.opens d := by cases s <;> rfl
    obtain ⟨w1, w2⟩ := ih (sim_keys hk s) v3
    refine ⟨⟨?_, ?_, by rw [eo]; exact w1⟩, w2⟩
    · cases s <;> exact v1
    · cases s with
      | op m n k => show m ∉ _; rw [hk]; exact v2
      | back m => show m ∈ _; rw [hk]; exact v2
      | days n k => trivial
      | pause n k => trivial
theorem Sims.marks {r q : List Deed} (h : Sims r q) (hv : vd [] ac0 r) : marksOf q = marksOf r := (vd_sim h rfl hv).2
def limD (b : Int) : Deed → Prop
  | .op _ n => n ≤ b
  | .days n => n ≤ b
  | .pause n => n ≤ b
  | .back _ => True
theorem limD.mono {b b' : Int} (h : b ≤ b') {d : Deed} (l : limD b d) : limD b' d := by
  cases d with
  | back m => trivial
  | _ => exact Int.le_trans l h
structure DRow (n : Nat) (b : Int) (row : List Deed) : Prop where
  v : ValidRow row
  nd : (row.flatMap opens).Nodup
  mo : ∀ m ∈ row.flatMap opens, MarkOk m
  on : (row.flatMap opens).length ≤ n
  len : row.length ≤ 3 * n + 2
  lim : ∀ d ∈ row, limD b d
theorem DRow.sub {n : Nat} {b : Int} {row : List Deed} (h : DRow n b row) : ∀ m ∈ marksOf row, m ∈ row.flatMap opens := fun m hm => by
  rcases run_keys ac0 row m hm with q | q
  · simp [ac0] at q
  · exact q
theorem DRow.mok {n : Nat} {b : Int} {row : List Deed} (h : DRow n b row) : ∀ m ∈ marksOf row, MarkOk m := fun m hm => h.mo m (h.sub m hm)
theorem btw_lim {w : Int} {b : List Str} {l : List Deed} {b' : List Str} (h : Btw w b l b') : ∀ d ∈ l, limD (max w 9) d := by
  induction h with
  | nil => intro d h; cases h
  | days _ _ h2 ih =>
    intro d h
    rcases List.mem_append.mp h with h | h
    · exact ih d h
    · rw [List.mem_singleton.mp h]; exact Int.le_trans h2 (by omega)
  | pause _ _ h2 ih =>
    intro d h
    rcases List.mem_append.mp h with h | h
    · exact ih d h
    · rw [List.mem_singleton.mp h]; exact Int.le_trans h2 (by omega)
  | back _ _ ih =>
    intro d h
    rcases List.mem_append.mp h with h | h
    · exact ih d h
    · rw [List.mem_singleton.mp h]; trivial
theorem rowF_lim {w : Int} {ps : List Str} {row : List Deed} (h : RowF w ps row) : ∀ d ∈ row, limD (max w 9) d := by
  obtain ⟨row0, b, l, b', rr, bt, rfl⟩ := h
  have q : ∀ d ∈ row0, limD (max w 9) d := by
    clear bt
    induction rr with
    | nil => intro d h; cases h
    | step _ bt _ h2 ih =>
      intro d h
      rcases List.mem_append.mp h with h | h
      · rcases List.mem_append.mp h with h | h
        · exact ih d h
        · exact btw_lim bt d h
      · rw [List.mem_singleton.mp h]
        exact Int.le_trans h2 (by omega)
  intro d hd
  rcases List.mem_append.mp hd with hd | hd
  · exact q d hd
  · exact btw_lim bt d hd
end PP
set_option Elab.async false
set_option linter.all false
set_option maxRecDepth 100000
set_option maxHeartbeats 4000000
set_option Elab.async false
set_option linter.all false
set_option maxRecDepth 100000
set_option maxHeartbeats 4000000
namespace PP
open PySem L2
/-- a dict over some marks -/
def dM (marks : List Str) (f : Str → Int) : List (Str × Int) := marks.map fun m => (m, f m)
theorem dM_len (marks : List Str) (f : Str → Int) : (dM marks f).length = marks.length := List.length_map ..
end PP
set_option Elab.async false
set_option linter.all false
set_option maxRecDepth 100000
set_option maxHeartbeats 4000000
set_option Elab.async false
set_option linter.all false
set_option maxRecDepth 100000
set_option maxHeartbeats 4000000
namespace PP
open PySem L2
structure Shw (b k : Nat) (x : D) : Prop where
  l : (ps x).leavesShort 110 = true
  b : (ps x).bulk ≤ b
  o : psOk x = true
  s : (ps x).showable = true
  d : (ps x).depth ≤ k
theorem Shw.repr {b k : Nat} {x : D} (h : Shw b k x) (hb : b ≤ 20000) (hk : k ≤ 60) : reprOk x = true ∧ (ps x).shown.length ≤ sizeLine := by
  refine ⟨?_, ?_⟩
  · unfold reprOk
    rw [h.o, h.s]
    have := h.d
    simp only [Bool.true_and, decide_eq_true_eq]
    omega
  · have q := PyData.shown_le_bulk 110 (by decide) (ps x) h.l
    have := h.b
    have := sizeLine_big
    omega
theorem Shw.mono {b k b' k' : Nat} {x : D} (h : Shw b k x) (hb : b ≤ b') (hk : k ≤ k') : Shw b' k' x := ⟨h.l, Nat.le_trans h.b hb, h.o, h.s, Nat.le_trans h.d hk⟩
theorem Shw.int {n : Int} (h0 : 0 ≤ n) (h2 : n < 10 ^ 110) : Shw 0 0 (.int n) :=
  ⟨by show decide _ = true; exact decide_eq_true (int_shown h0 h2), Nat.le_refl _, rfl, by show decide _ = true; exact decide_eq_true (int_log h0 h2), Nat.le_refl _⟩
theorem Shw.mark {m : Str} (hm : MarkOk m) : Shw 8 0 (.str m) := by
  have h8 : m.cps.size ≤ 8 := hm.2.1
  refine ⟨?_, h8, rfl, rfl, Nat.le_refl _⟩
  show (m.cps.toList.all fun c => decide (c < 16 ^ 8)) = true
  rw [List.all_eq_true]
  intro c hc
  have := markOk_let hm c hc
  exact decide_eq_true (by omega)
theorem shw_all {b k : Nat} : ∀ {xs : List D}, (∀ x ∈ xs, Shw b k x) → PyData.leavesShortAll 110 (pss xs) = true ∧ PyData.bulkAll (pss xs) ≤ (b + 1) * xs.length ∧ psOks xs = true ∧ PyData.showableAll (pss xs) = true ∧ PyData.depthAll (pss xs) ≤ k
  | [], _ => ⟨rfl, Nat.zero_le _, rfl, rfl, Nat.zero_le _⟩
  | x :: xs, h => by
    obtain ⟨a1, a2, a3, a4, a5⟩ := shw_all (xs := xs) fun y hy => h y (by simp [hy])
    have hx := h x (by simp)
    have h1 := hx.b
    have h2 := hx.d
    simp only [pss, psOks, PyData.leavesShortAll, PyData.bulkAll, PyData.showableAll, PyData.depthAll, hx.l, hx.o, hx.s, a1, a3, a4, List.length_cons, Bool.and_self]
    refine ⟨trivial, ?_, trivial, trivial, by omega⟩
    rw [Nat.mul_succ]
    omega
theorem Shw.lst {b k : Nat} {xs : List D} (h : ∀ x ∈ xs, Shw b k x) : Shw ((b + 1) * xs.length) (k + 1) (.lst xs) := by
  obtain ⟨a1, a2, a3, a4, a5⟩ := shw_all h
  exact ⟨a1, a2, a3, a4, Nat.succ_le_succ a5⟩
theorem Shw.tup {b k : Nat} {xs : List D} (h : ∀ x ∈ xs, Shw b k x) : Shw ((b + 1) * xs.length) (k + 1) (.tup xs) := by
  obtain ⟨a1, a2, a3, a4, a5⟩ := shw_all h
  exact ⟨a1, a2, a3, a4, Nat.succ_le_succ a5⟩
theorem shw_kv : ∀ {l : List (Str × Int)}, (∀ p ∈ l, MarkOk p.1 ∧ 0 ≤ p.2 ∧ p.2 < 10 ^ 110) → PyData.leavesShortKv 110 (psK (dI l)) = true ∧ PyData.bulkKv (psK (dI l)) ≤ 10 * l.length ∧ psOkK (dI l) = true ∧ PyData.showableKv (psK (dI l)) = true ∧ PyData.depthKv (psK (dI l)) ≤ 0
  | [], _ => ⟨rfl, Nat.zero_le _, rfl, rfl, Nat.zero_le _⟩
  | (m, n) :: l, h => by
    obtain ⟨a1, a2, a3, a4, a5⟩ := shw_kv (l := l) fun y hy => h y (by simp [hy])
    obtain ⟨h1, h2, h3⟩ := h (m, n) (by simp)
    have s1 := Shw.mark h1
    have s2 := Shw.int h2 h3
    have b1 : (ps (.str m)).bulk ≤ 8 := s1.b
    have l1 : PyData.leavesShort 110 (.str m) = true := s1.l
    have l2 : PyData.leavesShort 110 (.int n) = true := s2.l
    have w2 : PyData.showable (.int n) = true := s2.s
    have b1' : PyData.bulk (.str m) ≤ 8 := b1
    have e : psK (dI ((m, n) :: l)) = (.str m, .int n) :: psK (dI l) := rfl
    have e2 : psOkK (dI ((m, n) :: l)) = psOkK (dI l) := rfl
    rw [e, e2]
    simp only [PyData.leavesShortKv, PyData.bulkKv, PyData.showableKv, PyData.depthKv, l1, l2, w2, a1, a3, a4, List.length_cons, Bool.and_self]
    refine ⟨trivial, ?_, trivial, ?_, ?_⟩
    · have : PyData.bulk (.int n) = 0 := rfl
      omega
    · rfl
    · have e1 : PyData.depth (.str m) = 0 := rfl
      have e2 : PyData.depth (.int n) = 0 := rfl
      rw [e1, e2]; omega
theorem Shw.dI {l : List (Str × Int)} (h : ∀ p ∈ l, MarkOk p.1 ∧ 0 ≤ p.2 ∧ p.2 < 10 ^ 110) : Shw (10 * l.length) 1 (.dct (dI l)) := by
  obtain ⟨a1, a2, a3, a4, a5⟩ := shw_kv h
  exact ⟨a1, a2, a3, a4, Nat.succ_le_succ a5⟩
theorem OkR.bring {row : List Deed} (h : OkR row) {ms : List Str} (hms : ∀ m ∈ ms, m ∈ marksOf row) {m : Str} (hm : m ∈ ms) : 0 ≤ bringV row ms m ∧ bringV row ms m < 10 ^ 110 := by
  obtain ⟨_, _, _, h0⟩ := bring_min h.v hms hm
  refine ⟨h0, ?_⟩
  have a := h.left hms
  have b := h.left (ms := wo ms m) fun x hx => hms x (mem_wo.mp hx).1
  unfold bringV
  omega
end PP
set_option Elab.async false
set_option linter.all false
set_option maxRecDepth 100000
set_option maxHeartbeats 4000000
namespace PP
open PySem PySem.Spec PyProof.Rows L2
/-- the object at a is o -/
def ObO (o : Obj) : HO := .frz o (.ext fun _ => True)
theorem objOk_ob {P : Program} {w : World} {H : Hp} {h : Heap} {a : Addr} {o : Obj} (e : h.get? a = some o) : ObjOk P w H h a (ObO o) := ⟨e, trivial, ⟨o, e⟩, fun _ _ _ _ => trivial⟩
/-- told of: the objects of h at the places S -/
def addW (S : List Addr) (h : Heap) (H : Hp) : Hp := fun a => if a ∈ S then (h.get? a).map ObO else H a
def subW (S : List Addr) (H : Hp) : Hp := fun a => if a ∈ S then none else H a
section
variable {S : List Addr} {h : Heap} {H : Hp} {P : Program} {w : World}
theorem addW_in {a : Addr} {o : Obj} (m : a ∈ S) (e : h.get? a = some o) : addW S h H a = some (ObO o) := by unfold addW; rw [if_pos m, e]; rfl
theorem addW_out {a : Addr} (m : a ∉ S) : addW S h H a = H a := by unfold addW; rw [if_neg m]
theorem subW_in {a : Addr} (m : a ∈ S) : subW S H a = none := by unfold subW; rw [if_pos m]
theorem subW_out {a : Addr} (m : a ∉ S) : subW S H a = H a := by unfold subW; rw [if_neg m]
theorem addW_hok (k : HOk P w H h) (n : ∀ a ∈ S, H a = none ∧ ∃ o, h.get? a = some o) : HOk P w (addW S h H) h := fun a u e => by
  by_cases m : a ∈ S
  · obtain ⟨_, o, q⟩ := n a m
    rw [addW_in m q] at e; cases e
    exact objOk_ob q
  · rw [addW_out m] at e
    refine (k a u e).stay (fun _ _ _ q => q) (fun b q => ?_) fun b xs q => ?_
    · rw [addW_out fun m => by rw [(n b m).1] at q; cases q]; exact q
    · rw [addW_out fun m => by rw [(n b m).1] at q; cases q]; exact q
theorem subW_hok (k : HOk P w H h) (n : ∀ a ∈ S, ∃ o, H a = some (ObO o)) : HOk P w (subW S H) h := fun a u e => by
  have m : a ∉ S := fun m => by rw [subW_in m] at e; cases e
  rw [subW_out m] at e
  refine (k a u e).stay (fun _ _ _ q => q) (fun b q => ?_) fun b xs q => ?_
  · rw [subW_out fun m => by obtain ⟨o, e'⟩ := n b m; rw [e'] at q; cases q]; exact q
  · rw [subW_out fun m => by obtain ⟨o, e'⟩ := n b m; rw [e'] at q; cases q]; exact q
end
end PP
set_option Elab.async false
set_option linter.all false
set_option maxRecDepth 100000
set_option maxHeartbeats 4000000
set_option Elab.async false
set_option linter.all false
set_option maxRecDepth 100000
set_option maxHeartbeats 4000000
namespace PP
open PySem PySem.Spec PyProof.Rows L2
/-- a contract without errors, as a promise -/
def spN (G : Gc) (con : Con) : List V → Hp → VK → Prop := fun vs H Q => ∃ (T : SA) (A : AS) (as : List (Option D)) (c : Stm) (K : R → Stm → Prop), StrOk T H c ∧ (∀ a, T.A a → A a) ∧ T.tb = G.tb ∧ (∀ a, A a → NT (H a)) ∧ ArgsOk G T A H vs as ∧ con as c K noXc ∧
  ∀ r c' v H', K r c' → Keep T.A A H H' → StrOk T H' c' → RRc G A H H' v r → Q v H'
section
variable {P : Program} {w : World} {K : PySem.W.Frag} {mg : Str → Option Value} {base : Heap}
theorem Env0.sub {A : Around} {outer : List PySem.Env} {s : Shared} {H : Hp} {S : List Addr} (e : Env0 P w K mg base A outer s H) (n : ∀ a ∈ S, ∃ o, H a = some (ObO o)) : Env0 P w K mg base A outer s (subW S H) := by
  have z : ∀ b, H b = none → subW S H b = none := fun b h => by
    by_cases m : b ∈ S
    · exact subW_in m
    · rw [subW_out m]; exact h
  exact ⟨e.frames, e.mod, fun b o q => ⟨(e.bs b o q).1, z b (e.bs b o q).2⟩, e.bsz, e.funs, fun b q => z b (e.frf b q), subW_hok e.hok n, e.bare⟩
theorem Env0.add {A : Around} {outer : List PySem.Env} {s : Shared} {H : Hp} {S : List Addr} (e : Env0 P w K mg base A outer s H) (n : ∀ a ∈ S, H a = none ∧ a ∉ frs outer ∧ base.get? a = none ∧ ∃ o, s.heap.get? a = some o) : Env0 P w K mg base A outer s (addW S s.heap H) :=
  ⟨e.frames, e.mod, fun b o q => ⟨(e.bs b o q).1, by rw [addW_out fun m => by rw [(n b m).2.2.1] at q; cases q]; exact (e.bs b o q).2⟩, e.bsz, e.funs, fun b q => by rw [addW_out fun m => (n b m).2.1 q]; exact e.frf b q,
    addW_hok e.hok fun a m => ⟨(n a m).1, (n a m).2.2.2⟩, e.bare⟩
end
end PP
set_option Elab.async false
set_option linter.all false
set_option maxRecDepth 100000
set_option maxHeartbeats 4000000
set_option Elab.async false
set_option linter.all false
set_option maxRecDepth 100000
set_option maxHeartbeats 4000000
set_option Elab.async false
set_option linter.all false
set_option maxRecDepth 100000
set_option maxHeartbeats 4000000
namespace PP
open PySem L2
def spI (G : Gc) (c : Str) (np : Nat) (con : Con) : Sp := fun vs H Q Ex => vs.length = np ∧ ∃ (x dx : Addr) (H0 : Hp) (us : List V) (T : SA) (A : AS) (as : List (Option D)) (n : Stm) (K' : R → Stm → Prop) (e : XCc), vs = .ref x :: us ∧ H = upd (upd H0 dx (.own x)) x (.ins (G.ga c) dx []) ∧ H0 x = none ∧ H0 dx = none ∧ dx ≠ x ∧ StrOk T H0 n ∧ (∀ a, T.A a → A a) ∧ T.tb = G.tb ∧ (∀ a, A a → NT (H0 a)) ∧
  ArgsOk G T A H0 us as ∧ con as n K' e ∧ (∀ fs c' H', K' (.fz (.obj c fs)) c' → Keep T.A A H0 H' → StrOk T H' c' → Fz G A H' (.ref x) (.obj c fs) → Q .non H') ∧ ∀ xn c' cls d H', e xn c' → Keep T.A A H0 H' → StrOk T H' c' → XcIs G A H' cls d xn → Ex cls d H'
section
variable {P : Program} {w : World} {K : PySem.W.Frag} {mg : Str → Option Value} {base : Heap} {x qual : Str} {params : Arguments} {body : List Stmt} {scope : Scope} {dvs : List V} {kws : List (Str × V)} {f : Addr} {fd : FuncData}
theorem mkE_I {G : Gc} {ps : List Str} {k nd : Nat} {cn : Str} {con : Con} {dfl : List D} {ds : List Value} (O : FnOg P w K mg base (L2.CX P w) k f fd ps (spI G cn ps.length con)) (hm : Mk K (G.ga cn) f) (hg : mg cn = some (.ref (G.ga cn))) (hb : Binds K fd ps ds) (hv : Vals dvs ds)
    (hl : ∀ as c K e, con as c K e → as.length + 1 = ps.length) (hdf : ∀ T A H, ArgsOk G T A H dvs (dflTail dfl nd)) : MkE P w K mg base G k cn con dfl nd := by
  refine ⟨f, fd, ps, _, dvs, ds, O, hm, hg, hb, hv, fun vs H Q Ex h x dx hx hdx hne => ?_⟩
  obtain ⟨T, A, as, n, K', e, hs, h1, h2, hA, ha, hc, kq, kx⟩ := h
  have ha2 := ha.append (hdf T A H)
  refine ⟨?_, x, dx, H, vs ++ dvs, T, A, as ++ dflTail dfl nd, n, K', e, rfl, rfl, hx, hdx, hne, hs, h1, h2, hA, ha2, hc, fun fs c' H' w kp st z => ⟨rfl, kq _ c' _ H' w kp st z⟩, kx⟩
  show (vs ++ dvs).length + 1 = ps.length
  rw [ha2.length]
  exact hl _ _ _ _ hc
end
end PP
set_option Elab.async false
set_option linter.all false
set_option maxRecDepth 100000
set_option maxHeartbeats 4000000
set_option Elab.async false
set_option linter.all false
set_option maxRecDepth 100000
set_option maxHeartbeats 4000000
set_option Elab.async false
set_option linter.all false
set_option maxRecDepth 100000
set_option maxHeartbeats 4000000
set_option Elab.async false
set_option linter.all false
set_option maxRecDepth 100000
set_option maxHeartbeats 4000000
set_option Elab.async false
set_option linter.all false
set_option maxRecDepth 100000
set_option maxHeartbeats 4000000
set_option Elab.async false
set_option linter.all false
set_option maxRecDepth 100000
set_option maxHeartbeats 4000000
set_option Elab.async false
set_option linter.all false
set_option maxRecDepth 100000
set_option maxHeartbeats 4000000
set_option Elab.async false
set_option linter.all false
set_option maxRecDepth 100000
set_option maxHeartbeats 2000000
set_option Elab.async false
set_option linter.all false
set_option maxRecDepth 100000
set_option maxHeartbeats 4000000
namespace PP
open PySem L2
structure Lf (A : List Str) (L : (Str → Bool) → Int) : Prop where
  ext : ∀ P Q : Str → Bool, (∀ m ∈ A, P m = Q m) → L P = L Q
  none : L (fun _ => false) = 0
  mono : ∀ P Q : Str → Bool, (∀ m, P m = true → Q m = true) → L P ≤ L Q
  cvx : ∀ P Q : Str → Bool, L P + L Q ≤ L (fun m => P m || Q m) + L (fun m => P m && Q m)
def wL (L : (Str → Bool) → Int) (m : Str) : Int := L (fun _ => true) - L (fun x => decide (x ≠ m))
/-- the sum of w over those of A that are so -/
def WS (w : Str → Int) (A : List Str) (Q : Str → Bool) : Int := ((A.filter Q).map w).sum
def dif (P Q : Str → Bool) : Str → Bool := fun m => P m && !Q m
theorem WS_cons (w : Str → Int) (m : Str) (A : List Str) (Q : Str → Bool) : WS w (m :: A) Q = (if Q m then w m else 0) + WS w A Q := by
  unfold WS
  by_cases h : Q m = true
  · rw [List.filter_cons_of_pos h, if_pos h]; simp
  · rw [List.filter_cons_of_neg h, if_neg h]; simp
theorem WS_nonneg {w : Str → Int} {Q : Str → Bool} : ∀ {A : List Str}, (∀ m ∈ A, 0 ≤ w m) → 0 ≤ WS w A Q
  | [], _ => by simp [WS]
  | m :: A, h => by
    have ih := WS_nonneg (Q := Q) fun x (hx : x ∈ A) => h x (by simp [hx])
    have := h m (by simp)
    rw [WS_cons]
    split <;> omega
theorem WS_add {w : Str → Int} {Q R S : Str → Bool} : ∀ {A : List Str}, (∀ m ∈ A, 0 ≤ w m) → (∀ m ∈ A, Q m = true → R m = true ∨ S m = true) → WS w A Q ≤ WS w A R + WS w A S
  | [], _, _ => by simp [WS]
  | m :: A, h, hq => by
    have ih := WS_add (fun x (hx : x ∈ A) => h x (by simp [hx])) (fun x (hx : x ∈ A) => hq x (by simp [hx]))
    have := h m (by simp)
    have hm := hq m (by simp)
    rw [WS_cons, WS_cons, WS_cons]
    by_cases a : Q m = true
    · rcases hm a with b | b
      · rw [if_pos a, if_pos b]; split <;> omega
      · rw [if_pos a, if_pos b]; split <;> omega
    · rw [if_neg a]; split <;> split <;> omega
theorem WS_pos {w : Str → Int} {Q : Str → Bool} {x : Str} : ∀ {A : List Str}, (∀ m ∈ A, 0 ≤ w m) → x ∈ A → Q x = true → 0 < w x → 0 < WS w A Q
  | m :: A, h, hx, hq, hw => by
    have n := WS_nonneg (Q := Q) fun x (hx : x ∈ A) => h x (by simp [hx])
    have h0 := h m (by simp)
    rw [WS_cons]
    rcases List.mem_cons.mp hx with rfl | hx
    · rw [if_pos hq]; omega
    · have := WS_pos (fun x (hx : x ∈ A) => h x (by simp [hx])) hx hq hw
      split <;> omega
theorem WS_zero {w : Str → Int} {Q : Str → Bool} : ∀ {A : List Str}, (∀ m ∈ A, Q m = true → w m = 0) → WS w A Q = 0
  | [], _ => rfl
  | m :: A, h => by
    rw [WS_cons, WS_zero fun x hx => h x (by simp [hx])]
    split
    · next hq => rw [h m (by simp) hq]; rfl
    · rfl
theorem WS_congr {w : Str → Int} {Q R : Str → Bool} : ∀ {A : List Str}, (∀ m ∈ A, Q m = R m) → WS w A Q = WS w A R
  | [], _ => rfl
  | m :: A, h => by rw [WS_cons, WS_cons, h m (by simp), WS_congr fun x hx => h x (by simp [hx])]
theorem WS_sym (w : Str → Int) (P Q : Str → Bool) : ∀ A : List Str, WS w A Q + WS w A (dif P Q) = WS w A P + WS w A (dif Q P)
  | [] => rfl
  | m :: A => by
    have ih := WS_sym w P Q A
    simp only [WS_cons]
    unfold dif at ih ⊢
    cases P m <;> cases Q m <;> simp <;> omega
namespace Lf
variable {A : List Str} {L : (Str → Bool) → Int} (h : Lf A L)
include h
theorem pos (P : Str → Bool) : 0 ≤ L P := by rw [← h.none]; exact h.mono _ _ fun _ q => by cases q
theorem w0 (m : Str) : 0 ≤ wL L m := by
  have := h.mono (fun x => decide (x ≠ m)) (fun _ => true) fun _ _ => rfl
  unfold wL; omega
theorem one (P : Str → Bool) (m : Str) : L (fun x => P x || decide (x = m)) ≤ L P + wL L m := by
  have q := h.cvx (fun x => P x || decide (x = m)) (fun x => decide (x ≠ m))
  have m1 := h.mono (fun x => (P x || decide (x = m)) && decide (x ≠ m)) P fun x hx => by
    simp only [Bool.and_eq_true, Bool.or_eq_true, decide_eq_true_eq] at hx
    rcases hx.1 with a | a
    · exact a
    · exact absurd a hx.2
  have m2 := h.mono (fun x => (P x || decide (x = m)) || decide (x ≠ m)) (fun _ => true) fun _ _ => rfl
  unfold wL; omega
theorem many (P C : Str → Bool) : ∀ l : List Str, L (fun x => P x || (C x && decide (x ∈ l))) ≤ L P + WS (wL L) l (dif C P)
  | [] => by
    have := h.mono (fun x => P x || (C x && decide (x ∈ ([] : List Str)))) P fun x hx => by simpa using hx
    simp only [WS, List.filter_nil, List.map_nil, List.sum_nil]; omega
  | m :: l => by
    have ih := many P C l
    rw [WS_cons]
    by_cases hd : dif C P m = true
    · rw [if_pos hd]
      have o := h.one (fun x => P x || (C x && decide (x ∈ l))) m
      have := h.mono (fun x => P x || (C x && decide (x ∈ m :: l))) (fun x => (P x || (C x && decide (x ∈ l))) || decide (x = m)) fun x hx => by
        simp only [Bool.or_eq_true, Bool.and_eq_true, decide_eq_true_eq, List.mem_cons] at hx ⊢
        rcases hx with a | ⟨a, b | b⟩
        · exact .inl (.inl a)
        · exact .inr b
        · exact .inl (.inr ⟨a, b⟩)
      omega
    · rw [if_neg hd]
      have := h.mono (fun x => P x || (C x && decide (x ∈ m :: l))) (fun x => P x || (C x && decide (x ∈ l))) fun x hx => by
        simp only [Bool.or_eq_true, Bool.and_eq_true, decide_eq_true_eq, List.mem_cons] at hx ⊢
        rcases hx with a | ⟨a, b | b⟩
        · exact .inl a
        · subst b
          unfold dif at hd
          rw [a] at hd
          exact .inl (by simpa using hd)
        · exact .inr ⟨a, b⟩
      omega
theorem le (C P : Str → Bool) : L C ≤ L P + WS (wL L) A (dif C P) := by
  have q := h.many P C A
  have e := h.ext (fun x => P x || (C x && decide (x ∈ A))) (fun x => P x || C x) fun m hm => by simp [hm]
  have := h.mono C (fun x => P x || C x) fun x hx => by simp [hx]
  omega
/-- a dead mark never counts -/
theorem alive (P : Str → Bool) : L (fun m => P m && decide (0 < wL L m)) = L P := by
  have q := h.le P (fun m => P m && decide (0 < wL L m))
  have z := WS_zero (w := wL L) (Q := dif P (fun m => P m && decide (0 < wL L m))) (A := A) fun m _ hm => by
    have := h.w0 m
    unfold dif at hm
    by_cases c : 0 < wL L m
    · simp [c] at hm
    · omega
  have := h.mono (fun m => P m && decide (0 < wL L m)) P fun x hx => (Bool.and_eq_true_iff.mp hx).1
  omega
end Lf
/-- a chain of sets of those alive that tells all -/
structure Ch (A : List Str) (L : (Str → Bool) → Int) (cs : List (List Str)) : Prop where
  lf : Lf A L
  sub : ∀ c ∈ cs, ∀ m ∈ c, m ∈ A ∧ 0 < wL L m
  srt : ∀ c ∈ cs, c.Pairwise ltS
  ne : ∀ c ∈ cs, c ≠ []
  nest : cs.Pairwise fun c d => (∀ m ∈ d, m ∈ c) ∧ c ≠ d
  dom : ∀ P, 0 < L P → ∃ c ∈ cs, L P ≤ L (inP c) - WS (wL L) A (dif (inP c) P)
/-- a set that tells more than the others -/
def st (A : List Str) (L : (Str → Bool) → Int) (cs : List (List Str)) (c : List Str) : Prop := 0 < L (inP c) ∧ ∀ d ∈ cs, c = d ∨ L (inP d) - WS (wL L) A (dif (inP d) (inP c)) < L (inP c)
instance : Decidable (st A L cs c) := by unfold st; infer_instance
def barsV (A : List Str) (L : (Str → Bool) → Int) (cs : List (List Str)) : List (List Str) := cs.filter fun c => decide (st A L cs c)
theorem sorted_ext {a b : List Str} (ha : a.Pairwise ltS) (hb : b.Pairwise ltS) (h : ∀ x, x ∈ a ↔ x ∈ b) : a = b :=
  (sub_sorted ha hb fun x hx => (h x).mp hx).eq_of_length_le (sub_sorted hb ha fun x hx => (h x).mpr hx).length_le
namespace Ch
variable {A : List Str} {L : (Str → Bool) → Int} {cs : List (List Str)} (h : Ch A L cs)
include h
theorem W0 (Q : Str → Bool) : 0 ≤ WS (wL L) A Q := WS_nonneg fun m _ => h.lf.w0 m
/-- two unlike sets of those alive: one of the differences counts -/
theorem apart {c d : List Str} (hc : c.Pairwise ltS) (hd : d.Pairwise ltS) (sc : ∀ m ∈ c, m ∈ A ∧ 0 < wL L m) (sd : ∀ m ∈ d, m ∈ A ∧ 0 < wL L m) (ne : c ≠ d) : 0 < WS (wL L) A (dif (inP c) (inP d)) + WS (wL L) A (dif (inP d) (inP c)) := by
  have a0 := h.W0 (dif (inP c) (inP d))
  have b0 := h.W0 (dif (inP d) (inP c))
  by_cases q : ∀ x ∈ c, x ∈ d
  · by_cases r : ∀ x ∈ d, x ∈ c
    · exact absurd (sorted_ext hc hd fun x => ⟨q x, r x⟩) ne
    · rw [Classical.not_forall] at r
      obtain ⟨x, hx⟩ := r
      rw [Classical.not_imp] at hx
      have := WS_pos (w := wL L) (Q := dif (inP d) (inP c)) (A := A) (fun m _ => h.lf.w0 m) (sd x hx.1).1 (by simp [dif, inP, hx.1, hx.2]) (sd x hx.1).2
      omega
  · rw [Classical.not_forall] at q
    obtain ⟨x, hx⟩ := q
    rw [Classical.not_imp] at hx
    have := WS_pos (w := wL L) (Q := dif (inP c) (inP d)) (A := A) (fun m _ => h.lf.w0 m) (sc x hx.1).1 (by simp [dif, inP, hx.1, hx.2]) (sc x hx.1).2
    omega
/-- all those alive: the first bar, and what is left of all -/
theorem top (hp : 0 < L fun _ => true) : ∃ c ∈ cs, (∀ m, m ∈ c ↔ m ∈ A ∧ 0 < wL L m) ∧ L (inP c) = L fun _ => true := by
  obtain ⟨c, hc, e⟩ := h.dom (fun _ => true) hp
  have z := h.W0 (dif (inP c) fun _ => true)
  have m1 := h.lf.mono (inP c) (fun _ => true) fun _ _ => rfl
  refine ⟨c, hc, fun m => ⟨h.sub c hc m, fun hm => ?_⟩, by omega⟩
  rcases Classical.em (m ∈ c) with q | q
  · exact q
  · exfalso
    have m2 := h.lf.mono (inP c) (fun x => decide (x ≠ m)) fun x hx => by
      have hx : x ∈ c := by simpa [inP] using hx
      exact decide_eq_true fun e => q (e ▸ hx)
    have := hm.2
    unfold wL at this
    omega
theorem top_bar {m : Str} (hm : m ∈ A) (hw : 0 < wL L m) : ∃ c cs', cs = c :: cs' ∧ (∀ m, m ∈ c ↔ m ∈ A ∧ 0 < wL L m) ∧ L (inP c) = (L fun _ => true) ∧ st A L cs c := by
  have n0 := h.lf.pos fun x => decide (x ≠ m)
  have hp : 0 < L fun _ => true := by unfold wL at hw; omega
  obtain ⟨c, hc, h1, h2⟩ := h.top hp
  cases hcs : cs with
  | nil => rw [hcs] at hc; cases hc
  | cons c' cs' =>
    have e : c' = c := by
      rw [hcs] at hc
      rcases List.mem_cons.mp hc with q | q
      · exact q.symm
      · have hn := h.nest
        rw [hcs] at hn
        have hn := (List.pairwise_cons.mp hn).1 c q
        refine sorted_ext (h.srt c' (by rw [hcs]; simp)) (h.srt c (by rw [hcs]; simp [q])) fun x => ⟨fun hx => (h1 x).mpr (h.sub c' (by rw [hcs]; simp) x hx), hn.1 x⟩
    refine ⟨c, cs', by rw [e], h1, h2, by rw [h2]; exact hp, fun d hd => ?_⟩
    rw [← hcs] at hd
    by_cases q : c = d
    · exact .inl q
    refine .inr ?_
    have sd := h.sub d hd
    have z : WS (wL L) A (dif (inP d) (inP c)) = 0 := WS_zero fun x _ hx => by
      exfalso
      have hx : x ∈ d ∧ x ∉ c := by simpa [dif, inP] using hx
      exact hx.2 ((h1 x).mpr (sd x hx.1))
    have : ∃ x ∈ c, x ∉ d := by
      refine Classical.byContradiction fun hno => q ?_
      refine sorted_ext (h.srt c hc) (h.srt d hd) fun x => ⟨fun hx => Classical.byContradiction fun hxd => hno ⟨x, hx, hxd⟩, fun hx => (h1 x).mpr (sd x hx)⟩
    obtain ⟨x, hx, hxd⟩ := this
    have m2 := h.lf.mono (inP d) (fun y => decide (y ≠ x)) fun y hy => by
      have hy : y ∈ d := by simpa [inP] using hy
      exact decide_eq_true fun e => hxd (e ▸ hy)
    have w := (h.sub c hc x hx).2
    unfold wL at w
    omega
/-- along the chain the numbers of the bars fall, by less than what the outer ones have more -/
theorem bars_fall : (barsV A L cs).Pairwise fun c d => (∀ m ∈ d, m ∈ c) ∧ c ≠ d ∧ L (inP d) < L (inP c) ∧ L (inP c) - WS (wL L) A (dif (inP c) (inP d)) < L (inP d) := by
  have : (barsV A L cs).Pairwise fun c d => (∀ m ∈ d, m ∈ c) ∧ c ≠ d := h.nest.sublist List.filter_sublist
  refine List.Pairwise.imp_of_mem (fun {c d} hc hd hn => ?_) this
  obtain ⟨hc1, hc⟩ := List.mem_filter.mp hc
  obtain ⟨hd1, hd⟩ := List.mem_filter.mp hd
  have hc : st A L cs c := of_decide_eq_true hc
  have hd : st A L cs d := of_decide_eq_true hd
  refine ⟨hn.1, hn.2, ?_, ?_⟩
  · rcases hc.2 d hd1 with q | q
    · exact absurd q hn.2
    · have z : WS (wL L) A (dif (inP d) (inP c)) = 0 := WS_zero fun x _ hx => by
        exfalso
        have hx : x ∈ d ∧ x ∉ c := by simpa [dif, inP] using hx
        exact hx.2 (hn.1 x hx.1)
      omega
  · rcases hd.2 c hc1 with q | q
    · exact absurd q.symm hn.2
    · exact q
/-- no bar tells more than its marks have -/
theorem bar_most (c : List Str) : L (inP c) ≤ WS (wL L) A (inP c) := by
  have q := h.lf.le (inP c) (fun _ => false)
  have e : WS (wL L) A (dif (inP c) fun _ => false) = WS (wL L) A (inP c) := WS_congr fun m _ => by simp [dif]
  have := h.lf.none
  omega
theorem loose {c : List Str} {m : Str} (hm : m ∉ c) : wL L m ≤ (L fun _ => true) - L (inP c) := by
  have := h.lf.mono (inP c) (fun x => decide (x ≠ m)) fun x hx => by
    have hx : x ∈ c := by simpa [inP] using hx
    exact decide_eq_true fun e => hm (e ▸ hx)
  unfold wL
  omega
theorem loose0 (m : Str) : wL L m ≤ L fun _ => true := by
  have := h.lf.pos fun x => decide (x ≠ m)
  unfold wL
  omega
end Ch
end PP
set_option Elab.async false
set_option linter.all false
set_option maxRecDepth 100000
set_option maxHeartbeats 2000000
set_option Elab.async false
set_option linter.all false
set_option maxRecDepth 100000
set_option maxHeartbeats 4000000
namespace PP
open PySem L2
def sumO (w : Str → Int) (c : List Str) (P : Str → Bool) : Int := ((c.filter fun m => !P m).map w).sum
def mostD (ms : List Str) (w : Str → Int) : D := .dct (dI (dM ms w))
/-- the greatest number that a mark can have beside the bars -/
def looseV (n0 : Int) (m : Str) : List (List Str × Int) → Int
  | [] => n0
  | b :: bs => if m ∈ b.1 then looseV n0 m bs else n0 - b.2
end PP
set_option Elab.async false
set_option linter.all false
set_option maxRecDepth 100000
set_option maxHeartbeats 4000000
namespace PP
open PySem L2
structure FormOk (ms : List Str) (w : Str → Int) (bs : List (List Str × Int)) : Prop where
  nd : ms.Nodup
  mks : ∀ m ∈ ms, MarkOk m ∧ 0 < w m
  sub : ∀ b ∈ bs, ∀ m ∈ b.1, m ∈ ms
  bnd : ∀ b ∈ bs, b.1.Nodup ∧ b.1 ≠ [] ∧ 0 < b.2
  len : ms.length ≤ 60
  bl : bs.length ≤ 1000
  hd : (ms = [] ∧ bs = []) ∨ ∃ b r, bs = b :: r ∧ b.1.length = ms.length
  pr : ∀ p ∈ bs.zip bs.tail, p.2.1.length < p.1.1.length ∧ sumO w p.2.1 (inP p.1.1) = 0 ∧ p.2.2 < p.1.2 ∧ p.1.2 - sumO w p.1.1 (inP p.2.1) < p.2.2
  lst : ∀ l b, bs = l ++ [b] → b.2 ≤ sumO w b.1 (inP [])
  lo : ∀ b r, bs = b :: r → ∀ m ∈ ms, w m ≤ looseV b.2 m bs
end PP
set_option Elab.async false
set_option linter.all false
set_option maxRecDepth 100000
set_option maxHeartbeats 4000000
set_option Elab.async false
set_option linter.all false
set_option maxRecDepth 100000
set_option maxHeartbeats 4000000
namespace PP
open PySem L2
theorem perm_sum {w : Str → Int} {a b : List Str} (h : a.Perm b) : (a.map w).sum = (b.map w).sum := by
  induction h with
  | nil => rfl
  | cons x _ ih => simp only [List.map_cons, List.sum_cons, ih]
  | swap x y l => simp only [List.map_cons, List.sum_cons]; omega
  | trans _ _ h1 h2 => exact h1.trans h2
theorem sumO_WS {w : Str → Int} {A c : List Str} (hA : A.Nodup) (hc : c.Nodup) (sub : ∀ m ∈ c, m ∈ A) (Q : Str → Bool) : sumO w c Q = WS w A (dif (inP c) Q) := by
  refine perm_sum ((List.perm_ext_iff_of_nodup (hc.filter _) (hA.filter _)).mpr fun m => ?_)
  simp only [List.mem_filter, dif, inP, Bool.and_eq_true, decide_eq_true_eq]
  exact ⟨fun h => ⟨sub m h.1, h.1, h.2⟩, fun h => ⟨h.2.1, h.2.2⟩⟩
def alV (A : List Str) (L : (Str → Bool) → Int) : List Str := A.filter fun m => decide (0 < wL L m)
def partV (A : List Str) (L : (Str → Bool) → Int) (s : List Str) : List Str := sortS (s.filter fun m => decide (m ∈ alV A L))
def addP (acc : List (List Str)) (p : List Str) : List (List Str) := if p ∈ acc then acc else acc ++ [p]
def setsV (A : List Str) (L : (Str → Bool) → Int) (cs : List (List Str)) : List (List Str) := ((A :: cs).map (partV A L)).foldl addP []
def chainV (A : List Str) (L : (Str → Bool) → Int) (cs : List (List Str)) : List (List Str) := (setsV A L cs).filter fun p => decide (p ≠ [])
def numV (L : (Str → Bool) → Int) (c : List Str) : List Str × Int := (c, L (inP c))
theorem mem_al {A : List Str} {L : (Str → Bool) → Int} {m : Str} : m ∈ alV A L ↔ m ∈ A ∧ 0 < wL L m := by unfold alV; rw [List.mem_filter, decide_eq_true_eq]
theorem mem_part {A : List Str} {L : (Str → Bool) → Int} {s : List Str} {m : Str} : m ∈ partV A L s ↔ m ∈ s ∧ m ∈ A ∧ 0 < wL L m := by
  unfold partV
  rw [(sortS_perm _).mem_iff, List.mem_filter, decide_eq_true_eq, mem_al]
theorem addP_mem : ∀ {ps acc : List (List Str)} {x : List Str}, x ∈ ps.foldl addP acc ↔ x ∈ acc ∨ x ∈ ps
  | [], acc, x => by simp
  | p :: ps, acc, x => by
    rw [List.foldl_cons, addP_mem (ps := ps)]
    unfold addP
    split
    · next h => rw [List.mem_cons]; exact ⟨fun q => q.elim .inl fun q => .inr (.inr q), fun q => q.elim .inl fun q => q.elim (fun e => .inl (e ▸ h)) .inr⟩
    · rw [List.mem_append, List.mem_singleton, List.mem_cons, or_assoc]
theorem addP_nodup : ∀ {ps acc : List (List Str)}, acc.Nodup → (ps.foldl addP acc).Nodup
  | [], _, h => h
  | p :: ps, acc, h => by
    rw [List.foldl_cons]
    refine addP_nodup ?_
    unfold addP
    split
    · exact h
    · next n =>
      rw [List.nodup_append]
      exact ⟨h, by simp, fun a ha b hb e => n (by rw [List.mem_singleton.mp hb] at e; exact e ▸ ha)⟩
theorem addP_sub : ∀ {ps acc : List (List Str)}, ∃ qs : List (List Str), qs.Sublist ps ∧ ps.foldl addP acc = acc ++ qs
  | [], acc => ⟨[], .slnil, (List.append_nil acc).symm⟩
  | p :: ps, acc => by
    rw [List.foldl_cons]
    by_cases h : p ∈ acc
    · rw [show addP acc p = acc from if_pos h]
      obtain ⟨qs, h1, h2⟩ := addP_sub (ps := ps) (acc := acc)
      exact ⟨qs, .cons p h1, h2⟩
    · rw [show addP acc p = acc ++ [p] from if_neg h]
      obtain ⟨qs, h1, h2⟩ := addP_sub (ps := ps) (acc := acc ++ [p])
      exact ⟨p :: qs, .cons_cons p h1, by rw [h2, List.append_assoc]; rfl⟩
theorem lt_nodup {c : List Str} (h : c.Pairwise ltS) : c.Nodup := h.imp fun {a b} q e => by subst e; exact ltS_irrefl _ q
/-- what is asked of marks, sets within one another, and what is left by them -/
structure Chain (A : List Str) (L : (Str → Bool) → Int) (cs : List (List Str)) : Prop where
  lf : Lf A L
  nd : A.Nodup
  sub : ∀ c ∈ cs, c.Nodup ∧ ∀ m ∈ c, m ∈ A
  nest : cs.Pairwise fun c d => ∀ m ∈ d, m ∈ c
  dom : ∀ P, 0 < L P → ∃ c ∈ A :: cs, L P ≤ L (inP c) - WS (wL L) A (dif (inP c) P)
namespace Chain
variable {A : List Str} {L : (Str → Bool) → Int} {cs : List (List Str)} (h : Chain A L cs)
include h
theorem subA : ∀ c ∈ A :: cs, c.Nodup ∧ ∀ m ∈ c, m ∈ A := fun c hc => by
  rcases List.mem_cons.mp hc with rfl | hc
  · exact ⟨h.nd, fun m h => h⟩
  · exact h.sub c hc
theorem set_of {p : List Str} (hp : p ∈ setsV A L cs) : ∃ c ∈ A :: cs, p = partV A L c := by
  rcases addP_mem.mp hp with q | q
  · cases q
  · obtain ⟨c, hc, rfl⟩ := List.mem_map.mp q
    exact ⟨c, hc, rfl⟩
theorem part_lt {c : List Str} (hc : c ∈ A :: cs) : (partV A L c).Pairwise ltS := sortS_lt ((h.subA c hc).1.filter _)
theorem part_L (c : List Str) : L (inP (partV A L c)) = L (inP c) := by
  rw [← h.lf.alive (inP c)]
  refine h.lf.ext _ _ fun m hm => ?_
  unfold inP
  rw [Bool.eq_iff_iff]
  simp only [decide_eq_true_eq, Bool.and_eq_true, mem_part]
  exact ⟨fun q => ⟨q.1, q.2.2⟩, fun q => ⟨q.1, hm, q.2⟩⟩
theorem ch : Ch A L (chainV A L cs) where
  lf := h.lf
  sub := fun c hc m hm => by
    obtain ⟨d, hd, rfl⟩ := h.set_of (List.mem_filter.mp hc).1
    exact (mem_part.mp hm).2
  srt := fun c hc => by
    obtain ⟨d, hd, rfl⟩ := h.set_of (List.mem_filter.mp hc).1
    exact h.part_lt hd
  ne := fun c hc => of_decide_eq_true (List.mem_filter.mp hc).2
  nest := by
    have n1 : ((A :: cs).map (partV A L)).Pairwise fun c d => ∀ m ∈ d, m ∈ c := by
      rw [List.pairwise_map, List.pairwise_cons]
      exact ⟨fun c hc m hm => mem_part.mpr ⟨(h.sub c hc).2 m (mem_part.mp hm).1, (mem_part.mp hm).2⟩, h.nest.imp fun hcd m hm => mem_part.mpr ⟨hcd m (mem_part.mp hm).1, (mem_part.mp hm).2⟩⟩
    obtain ⟨qs, q1, q2⟩ := addP_sub (ps := (A :: cs).map (partV A L)) (acc := [])
    have n2 : (setsV A L cs).Pairwise fun c d => ∀ m ∈ d, m ∈ c := by
      unfold setsV
      rw [q2, List.nil_append]
      exact n1.sublist q1
    have n3 : (setsV A L cs).Nodup := addP_nodup List.nodup_nil
    exact (n2.and n3).sublist List.filter_sublist
  dom := fun Q hQ => by
    obtain ⟨c, hc, e⟩ := h.dom Q hQ
    have hl := h.part_L c
    have hw : WS (wL L) A (dif (inP (partV A L c)) Q) ≤ WS (wL L) A (dif (inP c) Q) := by
      have q := WS_add (w := wL L) (A := A) (Q := dif (inP (partV A L c)) Q) (R := dif (inP c) Q) (S := fun _ => false) (fun m _ => h.lf.w0 m) fun m _ hm => by
        simp only [dif, inP, Bool.and_eq_true, decide_eq_true_eq] at hm ⊢
        exact .inl ⟨(mem_part.mp hm.1).1, hm.2⟩
      have z : WS (wL L) A (fun _ => false) = 0 := WS_zero fun m _ hm => by cases hm
      omega
    have w0 : 0 ≤ WS (wL L) A (dif (inP (partV A L c)) Q) := WS_nonneg fun m _ => h.lf.w0 m
    refine ⟨partV A L c, List.mem_filter.mpr ⟨addP_mem.mpr (.inr (List.mem_map.mpr ⟨c, hc, rfl⟩)), decide_eq_true fun e2 => ?_⟩, by omega⟩
    have z : L (inP (partV A L c)) = 0 := by
      rw [e2, ← h.lf.none]
      exact h.lf.ext _ _ fun m _ => by simp [inP]
    omega
theorem nodA {c : List Str} (hc : c ∈ chainV A L cs) : c.Nodup ∧ ∀ m ∈ c, m ∈ A := ⟨lt_nodup (h.ch.srt c hc), fun m hm => (h.ch.sub c hc m hm).1⟩
end Chain
theorem zip_tail {α : Type} {R : α → α → Prop} : ∀ {l : List α}, l.Pairwise R → ∀ p ∈ l.zip l.tail, R p.1 p.2
  | [], _, p, hp => by simp at hp
  | [x], _, p, hp => by simp at hp
  | x :: y :: l, h, p, hp => by
    rw [List.pairwise_cons] at h
    have hp : p ∈ (x, y) :: (y :: l).zip l := hp
    rcases List.mem_cons.mp hp with rfl | hp
    · exact h.1 y (by simp)
    · exact zip_tail h.2 p hp
theorem sub_lt {c d : List Str} (hc : c.Pairwise ltS) (hd : d.Pairwise ltS) (h : ∀ m ∈ d, m ∈ c) (ne : c ≠ d) : d.length < c.length := by
  have s := sub_sorted hd hc h
  rcases Nat.lt_or_ge d.length c.length with q | q
  · exact q
  · exact absurd (s.eq_of_length_le q).symm ne
theorem loose_le {L : (Str → Bool) → Int} {n0 x : Int} {m : Str} (h0 : x ≤ n0) : ∀ {l : List (List Str)}, (∀ c ∈ l, m ∉ c → x ≤ n0 - L (inP c)) → x ≤ looseV n0 m (l.map (numV L))
  | [], _ => h0
  | c :: l, h => by
    show x ≤ if m ∈ c then looseV n0 m (l.map (numV L)) else n0 - L (inP c)
    split
    · exact loose_le h0 fun d hd => h d (by simp [hd])
    · next n => exact h c (by simp) n
theorem Chain.ok {A : List Str} {L : (Str → Bool) → Int} {cs : List (List Str)} (h : Chain A L cs) (hm : ∀ m ∈ A, MarkOk m) (hl : A.length ≤ 60) (hb : cs.length ≤ 900) : FormOk (sortS (alV A L)) (wL L) ((barsV A L (chainV A L cs)).map (numV L)) := by
  have ma : ∀ m, m ∈ sortS (alV A L) ↔ m ∈ A ∧ 0 < wL L m := fun m => by rw [(sortS_perm _).mem_iff, mem_al]
  have nda : (alV A L).Nodup := h.nd.filter _
  have fall := h.ch.bars_fall
  refine ⟨sortS_nodup nda, fun m q => ⟨hm m ((ma m).mp q).1, ((ma m).mp q).2⟩, fun b q m hmb => ?_, fun b q => ?_, ?_, ?_, ?_, fun p hp => ?_, fun l b e => ?_, fun b r e m hmm => ?_⟩
  · obtain ⟨c, hc, rfl⟩ := List.mem_map.mp q
    exact (ma m).mpr (h.ch.sub c (List.mem_filter.mp hc).1 m hmb)
  · obtain ⟨c, hc, rfl⟩ := List.mem_map.mp q
    obtain ⟨hc1, hc2⟩ := List.mem_filter.mp hc
    have hc2 : st A L (chainV A L cs) c := of_decide_eq_true hc2
    exact ⟨(h.nodA hc1).1, h.ch.ne c hc1, hc2.1⟩
  · rw [(sortS_perm _).length_eq]
    exact Nat.le_trans (List.length_filter_le _ _) hl
  · rw [List.length_map]
    obtain ⟨qs, q1, q2⟩ := addP_sub (ps := (A :: cs).map (partV A L)) (acc := [])
    have l1 : (setsV A L cs).length ≤ (A :: cs).length := by
      unfold setsV
      rw [q2, List.nil_append]
      have := q1.length_le
      rwa [List.length_map] at this
    have l2 : (barsV A L (chainV A L cs)).length ≤ (setsV A L cs).length := Nat.le_trans (List.length_filter_le _ _) (List.length_filter_le _ _)
    rw [List.length_cons] at l1
    omega
  · cases ea : sortS (alV A L) with
    | nil =>
      refine .inl ⟨rfl, ?_⟩
      rw [List.map_eq_nil_iff]
      refine List.eq_nil_iff_forall_not_mem.mpr fun c hc => ?_
      have hc1 := (List.mem_filter.mp hc).1
      rcases c with _ | ⟨m, c⟩
      · exact h.ch.ne _ hc1 rfl
      · have := (ma m).mpr (h.ch.sub _ hc1 m (by simp))
        rw [ea] at this
        cases this
    | cons m ms =>
      have hmm := (ma m).mp (by rw [ea]; simp)
      obtain ⟨c, cs', e1, e2, e3, e4⟩ := h.ch.top_bar hmm.1 hmm.2
      refine .inr ⟨numV L c, ((cs'.filter fun c => decide (st A L (chainV A L cs) c)).map (numV L)), ?_, ?_⟩
      · unfold barsV
        rw [show (chainV A L cs).filter (fun c => decide (st A L (chainV A L cs) c)) = (c :: cs').filter (fun c => decide (st A L (chainV A L cs) c)) by rw [← e1], List.filter_cons_of_pos (by exact decide_eq_true e4)]
        rfl
      · rw [← ea]
        have hc1 : c ∈ chainV A L cs := by rw [e1]; simp
        have : c = sortS (alV A L) := sorted_ext (h.ch.srt c hc1) (sortS_lt nda) fun x => (e2 x).trans (ma x).symm
        show c.length = _
        rw [this]
  · rw [← List.map_tail, List.zip_map] at hp
    obtain ⟨⟨c, d⟩, hq, rfl⟩ := List.mem_map.mp hp
    obtain ⟨f1, f2, f3, f4⟩ := zip_tail fall _ hq
    have mc : c ∈ barsV A L (chainV A L cs) := (List.of_mem_zip hq).1
    have md : d ∈ barsV A L (chainV A L cs) := List.mem_of_mem_tail (List.of_mem_zip hq).2
    have mc := (List.mem_filter.mp mc).1
    have md := (List.mem_filter.mp md).1
    refine ⟨sub_lt (h.ch.srt c mc) (h.ch.srt d md) f1 f2, ?_, f3, ?_⟩
    · show ((d.filter fun m => !inP c m).map (wL L)).sum = 0
      rw [List.filter_eq_nil_iff.mpr fun m hm => by simp [inP, f1 m hm]]
      rfl
    · show L (inP c) - sumO (wL L) c (inP d) < _
      rw [sumO_WS h.nd (h.nodA mc).1 (h.nodA mc).2]
      exact f4
  · have hb : b ∈ (barsV A L (chainV A L cs)).map (numV L) := by rw [e]; simp
    obtain ⟨c, hc, rfl⟩ := List.mem_map.mp hb
    have hc := (List.mem_filter.mp hc).1
    show L (inP c) ≤ sumO (wL L) c (inP [])
    rw [sumO_WS h.nd (h.nodA hc).1 (h.nodA hc).2]
    rw [WS_congr (R := inP c) fun m _ => by simp [dif, inP]]
    exact h.ch.bar_most c
  · have hmm := (ma m).mp hmm
    obtain ⟨c, cs', e1, e2, e3, e4⟩ := h.ch.top_bar hmm.1 hmm.2
    have hb : barsV A L (chainV A L cs) = c :: cs'.filter fun c => decide (st A L (chainV A L cs) c) := by
      unfold barsV
      rw [show (chainV A L cs).filter (fun c => decide (st A L (chainV A L cs) c)) = (c :: cs').filter (fun c => decide (st A L (chainV A L cs) c)) by rw [← e1], List.filter_cons_of_pos (by exact decide_eq_true e4)]
    have hb2 : b = numV L c := by
      rw [hb] at e
      exact (List.cons.inj e).1.symm
    rw [hb2]
    show _ ≤ looseV (L (inP c)) m _
    rw [e3]
    exact loose_le (h.ch.loose0 m) fun d hd hmd => h.ch.loose hmd
end PP
set_option Elab.async false
set_option linter.all false
set_option maxRecDepth 100000
set_option maxHeartbeats 4000000
set_option Elab.async false
set_option linter.all false
set_option maxRecDepth 100000
set_option maxHeartbeats 4000000
namespace PP
open PySem L2
def LA (row : List Deed) (Q : Str → Bool) : Int := (lft Q (acOf row).zs).2
def sN (Q : Str → Bool) : List Z3 → Int
  | [] => 0
  | z :: zs => (if Q z.1 then z.2.1 else 0) + sN Q zs
theorem sN_cons (Q : Str → Bool) (z : Z3) (zs : List Z3) : sN Q (z :: zs) = (if Q z.1 then z.2.1 else 0) + sN Q zs := rfl
theorem lft_cons (Q : Str → Bool) (z : Z3) (zs : List Z3) : lft Q (z :: zs) = if Q z.1 then ((lft Q zs).1 + z.2.1, max (lft Q zs).2 ((lft Q zs).1 + z.2.1 - z.2.2)) else lft Q zs := rfl
theorem lft_fst (Q : Str → Bool) : ∀ zs : List Z3, (lft Q zs).1 = sN Q zs
  | [] => rfl
  | z :: zs => by
    have ih := lft_fst Q zs
    unfold lft sN
    cases hQ : Q z.1 with
    | true => simp only [if_true]; show (lft Q zs).1 + z.2.1 = _; omega
    | false => simp only [Bool.false_eq_true, if_false]; omega
theorem lft_mono {Q R : Str → Bool} (h : ∀ m, R m = true → Q m = true) : ∀ zs : List Z3, (∀ z ∈ zs, 0 < z.2.1) → (lft R zs).1 ≤ (lft Q zs).1 ∧ (lft R zs).2 ≤ (lft Q zs).2
  | [], _ => ⟨Int.le_refl _, Int.le_refl _⟩
  | z :: zs, hz => by
    obtain ⟨h1, h2⟩ := lft_mono h zs fun y hy => hz y (by simp [hy])
    have h3 := hz z (by simp)
    unfold lft
    cases hR : R z.1 with
    | true =>
      rw [h _ hR]
      simp only [if_true]
      exact ⟨by show (lft R zs).1 + z.2.1 ≤ (lft Q zs).1 + z.2.1; omega, by show max (lft R zs).2 _ ≤ max (lft Q zs).2 _; omega⟩
    | false =>
      cases hQ : Q z.1 with
      | true =>
        simp only [if_true, Bool.false_eq_true, if_false]
        exact ⟨by show (lft R zs).1 ≤ (lft Q zs).1 + z.2.1; omega, by show (lft R zs).2 ≤ max (lft Q zs).2 _; omega⟩
      | false =>
        simp only [Bool.false_eq_true, if_false]
        exact ⟨h1, h2⟩
theorem lft_suf (Q : Str → Bool) : ∀ (pre post : List Z3), (lft Q post).2 ≤ (lft Q (pre ++ post)).2
  | [], post => Int.le_refl _
  | z :: pre, post => by
    have ih := lft_suf Q pre post
    rw [List.cons_append, lft_cons]
    cases hQ : Q z.1 with
    | true => simp only [if_true]; show _ ≤ max (lft Q (pre ++ post)).2 _; omega
    | false => simp only [Bool.false_eq_true, if_false]; exact ih
theorem lft_arg (Q : Str → Bool) : ∀ zs : List Z3, 0 < (lft Q zs).2 → ∃ pre z post, zs = pre ++ z :: post ∧ (lft Q zs).2 = sN Q (z :: post) - z.2.2 ∧ Q z.1 = true
  | [], h => absurd h (Int.lt_irrefl 0)
  | z :: zs, h => by
    have e1 : ∀ b, Q z.1 = b → (lft Q (z :: zs)).2 = if b then max (lft Q zs).2 ((lft Q zs).1 + z.2.1 - z.2.2) else (lft Q zs).2 := fun b hb => by
      simp only [lft, hb]
      cases b <;> rfl
    cases hQ : Q z.1 with
    | true =>
      have e2 := e1 true hQ
      rw [if_pos rfl] at e2
      rw [e2] at h ⊢
      by_cases c : (lft Q zs).2 ≤ (lft Q zs).1 + z.2.1 - z.2.2
      · refine ⟨[], z, zs, rfl, ?_, hQ⟩
        rw [Int.max_eq_right c, lft_fst, sN_cons, hQ, if_pos rfl]
        omega
      · rw [Int.max_eq_left (by omega)] at h ⊢
        obtain ⟨pre, y, post, q1, q2, q3⟩ := lft_arg Q zs h
        exact ⟨z :: pre, y, post, by rw [q1]; rfl, q2, q3⟩
    | false =>
      have e2 := e1 false hQ
      rw [if_neg (by decide)] at e2
      rw [e2] at h ⊢
      obtain ⟨pre, y, post, q1, q2, q3⟩ := lft_arg Q zs h
      exact ⟨z :: pre, y, post, by rw [q1]; rfl, q2, q3⟩
theorem WS_sN {w : Str → Int} {Q : Str → Bool} : ∀ {zs : List Z3}, (∀ z ∈ zs, w z.1 ≤ z.2.1) → WS w (zs.map (·.1)) Q ≤ sN Q zs
  | [], _ => by simp [WS, sN]
  | z :: zs, h => by
    have ih := WS_sN (Q := Q) fun y (hy : y ∈ zs) => h y (by simp [hy])
    have := h z (by simp)
    rw [List.map_cons, WS_cons]
    unfold sN
    split <;> omega
theorem sN_app (Q : Str → Bool) : ∀ a b : List Z3, sN Q (a ++ b) = sN Q a + sN Q b
  | [], b => by simp [sN]
  | z :: a, b => by
    rw [List.cons_append, sN_cons, sN_cons, sN_app Q a b]; omega
theorem sN_zero {Q : Str → Bool} : ∀ {zs : List Z3}, (∀ z ∈ zs, Q z.1 = false) → sN Q zs = 0
  | [], _ => rfl
  | z :: zs, h => by
    unfold sN
    rw [h z (by simp), sN_zero fun y hy => h y (by simp [hy])]; rfl
theorem sN_dif {C Q : Str → Bool} : ∀ {zs : List Z3}, (∀ z ∈ zs, C z.1 = true) → sN (dif C Q) zs = sN C zs - sN Q zs
  | [], _ => rfl
  | z :: zs, h => by
    have ih := sN_dif (C := C) (Q := Q) fun y (hy : y ∈ zs) => h y (by simp [hy])
    have hc := h z (by simp)
    unfold sN
    rw [ih]
    unfold dif
    rw [hc]
    cases Q z.1 <;> simp <;> omega
def sufs (A : List Str) : List (List Str) := (List.range A.length).map fun k => A.drop k
theorem chain_acc {row : List Deed} (hv : ValidRow row) : Chain (marksOf row) (LA row) (sufs (marksOf row)) := by
  have zm : (acOf row).zs.map (·.1) = marksOf row := zs_marks hv.good
  have nd : (marksOf row).Nodup := hv.good.nodup
  have fl := hv.falls
  have hin : ∀ z ∈ (acOf row).zs, z.1 ∈ marksOf row := fun z hz => by rw [← zm]; exact List.mem_map.mpr ⟨z, hz, rfl⟩
  have lf : Lf (marksOf row) (LA row) := {
    ext := fun Q R h => by
      unfold LA
      rw [lft_on fun z hz => h z.1 (hin z hz)]
    none := by
      unfold LA
      rw [lft_congr (P := fun _ => false) (Q := fun m => decide (m ∈ ([] : List Str))) (fun m => by simp), lft_none]
    mono := fun Q R h => (lft_mono h _ fun z hz => (fl.2 z hz).2).2
    cvx := fun Q R => lft_convex Q R _ fl }
  refine ⟨lf, nd, fun c hc => ?_, ?_, fun Q hQ => ?_⟩
  · obtain ⟨k, _, rfl⟩ := List.mem_map.mp hc
    exact ⟨nd.sublist (List.drop_sublist _ _), fun m hm => List.mem_of_mem_drop hm⟩
  · unfold sufs
    rw [List.pairwise_map]
    refine (List.pairwise_lt_range (n := (marksOf row).length)).imp fun {j k} hjk m hm => ?_
    have e : (marksOf row).drop k = ((marksOf row).drop j).drop (k - j) := by rw [List.drop_drop]; congr 1; omega
    rw [e] at hm
    exact List.mem_of_mem_drop hm
  · obtain ⟨pre, z, post, e1, e2, e3⟩ := lft_arg Q (acOf row).zs hQ
    have em : marksOf row = pre.map (·.1) ++ (z :: post).map (·.1) := by rw [← zm, e1, List.map_append]
    refine ⟨(z :: post).map (·.1), List.mem_cons_of_mem _ (List.mem_map.mpr ⟨pre.length, ?_, ?_⟩), ?_⟩
    · rw [List.mem_range, em, List.length_append, List.length_map, List.length_map, List.length_cons]; omega
    · rw [em, List.drop_append_of_le_length (by rw [List.length_map]; exact Nat.le_refl _), ← List.length_map (f := fun z : Z3 => z.1), List.drop_length]; rfl
    · have inC : ∀ y ∈ z :: post, inP ((z :: post).map (·.1)) y.1 = true := fun y hy => decide_eq_true (List.mem_map.mpr ⟨y, hy, rfl⟩)
      have outC : ∀ y ∈ pre, inP ((z :: post).map (·.1)) y.1 = false := fun y hy => decide_eq_false fun q => by
        rw [em, List.nodup_append] at nd
        exact nd.2.2 y.1 (List.mem_map.mpr ⟨y, hy, rfl⟩) y.1 q rfl
      have low : sN (inP ((z :: post).map (·.1))) (z :: post) - z.2.2 ≤ LA row (inP ((z :: post).map (·.1))) := by
        unfold LA
        rw [e1]
        refine Int.le_trans ?_ (lft_suf _ pre (z :: post))
        have hz := inC z (by simp)
        have : (lft (inP ((z :: post).map (·.1))) (z :: post)).2 = max (lft (inP ((z :: post).map (·.1))) post).2 ((lft (inP ((z :: post).map (·.1))) post).1 + z.2.1 - z.2.2) := by
          rw [lft, hz]; rfl
        rw [this, lft_fst]
        have : sN (inP ((z :: post).map (·.1))) (z :: post) = z.2.1 + sN (inP ((z :: post).map (·.1))) post := by rw [sN, hz]; rfl
        omega
      have hws : WS (wL (LA row)) (marksOf row) (dif (inP ((z :: post).map (·.1))) Q) ≤ sN (dif (inP ((z :: post).map (·.1))) Q) (acOf row).zs := by
        rw [← zm]
        refine WS_sN fun y hy => ?_
        obtain ⟨n, hn, hb, _⟩ := bring_min hv (fun x h => h) (hin y hy)
        have hb2 : wL (LA row) y.1 = bringV row (marksOf row) y.1 := (bring_br hv y.1).symm
        obtain ⟨eg, _⟩ := zip_given hv.good.keys
        have eg : (acOf row).given = (acOf row).zs.map fun z => (z.1, z.2.1) := eg.symm
        have hn2 : (y.1, y.2.1) ∈ (acOf row).given := by rw [eg]; exact List.mem_map.mpr ⟨y, hy, rfl⟩
        have e4 : n = y.2.1 := by
          have k1 := lookI_mem hv.good.nodup hn
          have k2 := lookI_mem hv.good.nodup hn2
          rw [k1] at k2
          exact Option.some.inj k2
        rw [hb2, hb, e4]
        omega
      rw [e1, sN_app, sN_zero (zs := pre) fun y hy => by unfold dif; rw [outC y hy]; rfl, sN_dif inC] at hws
      have e5 : LA row Q = sN Q (z :: post) - z.2.2 := e2
      omega
theorem valid_marks {row : List Deed} (hv : ValidRow row) : ∀ m ∈ marksOf row, MarkOk m := fun m hm => by
  rw [(count_marks row hv.vd).1, List.mem_filter] at hm
  obtain ⟨d, hd, hmd⟩ := List.mem_flatMap.mp hm.1
  have ok := hv.ok d hd
  cases d with
  | op k n => rw [show m = k from List.mem_singleton.mp hmd]; exact ok.1
  | _ => cases hmd
end PP
set_option Elab.async false
set_option linter.all false
set_option maxRecDepth 100000
set_option maxHeartbeats 4000000
namespace PP
open PySem L2
def alS (row : List Deed) : List Str := sortS (alV (marksOf row) (LA row))
theorem mem_alS {row : List Deed} {m : Str} : m ∈ alS row ↔ m ∈ marksOf row ∧ 0 < wL (LA row) m := by
  show m ∈ sortS (alV (marksOf row) (LA row)) ↔ _
  rw [(sortS_perm _).mem_iff, mem_al]
theorem alS_nd {row : List Deed} (hv : ValidRow row) : (alS row).Nodup := sortS_nodup (hv.good.nodup.filter _)
end PP
set_option Elab.async false
set_option linter.all false
set_option maxRecDepth 100000
set_option maxHeartbeats 4000000
namespace PP
open PySem L2
theorem w_bounds {row : List Deed} (okr : OkR row) {m : Str} (hm : m ∈ marksOf row) : 0 ≤ wL (LA row) m ∧ wL (LA row) m < 10 ^ 110 := by
  have e : wL (LA row) m = bringV row (marksOf row) m := (bring_br okr.v m).symm
  rw [e]
  exact okr.bring (fun x h => h) hm
theorem Shw.most {row : List Deed} (okr : OkR row) (hl : (marksOf row).length ≤ 16) : Shw 160 1 (mostD (alS row) (wL (LA row))) := by
  have hal : (alS row).length ≤ 16 := Nat.le_trans (nodup_len _ _ (alS_nd okr.v) fun m hm => (mem_alS.mp hm).1) hl
  refine (Shw.dI fun p hp => ?_).mono (by rw [dM_len]; omega) (Nat.le_refl _)
  obtain ⟨m, hm, rfl⟩ := List.mem_map.mp hp
  have hm := (mem_alS.mp hm).1
  exact ⟨valid_marks okr.v m hm, w_bounds okr hm⟩
end PP
set_option Elab.async false
set_option linter.all false
set_option maxRecDepth 100000
set_option maxHeartbeats 4000000
namespace PP
open PySem L2
/-- what is left, by the law's own going, of those that count -/
theorem LA_gl {row : List Deed} (hv : ValidRow row) (Q : Str → Bool) : LA row Q = gl (fun m => Q m && decide (m ∈ marksOf row)) 0 row := by
  have lf := (chain_acc hv).lf
  have e1 : LA row Q = LA row (inP ((marksOf row).filter Q)) := lf.ext _ _ fun m hm => by
    unfold inP
    rw [Bool.eq_iff_iff, decide_eq_true_eq, List.mem_filter]
    exact ⟨fun h => ⟨hm, h⟩, fun h => h.2⟩
  have e2 := gl_left hv (ms := (marksOf row).filter Q) fun m hm => (List.mem_filter.mp hm).1
  have e3 : inP ((marksOf row).filter Q) = fun m => Q m && decide (m ∈ marksOf row) := by
    funext m
    unfold inP
    rw [Bool.eq_iff_iff, decide_eq_true_eq, List.mem_filter, Bool.and_eq_true, decide_eq_true_eq]
    exact ⟨fun h => ⟨h.2, h.1⟩, fun h => ⟨h.2, h.1⟩⟩
  rw [e1, ← e3, e2]
  rfl
end PP
set_option Elab.async false
set_option linter.all false
set_option maxRecDepth 100000
set_option maxHeartbeats 4000000
namespace PP
open PySem L2
def opD (w : Str → Int) (m : Str) : Deed := .op m (w m)
def innerOf : List (List Str × Int) → List Str × Int
  | [] => ([], 0)
  | b :: _ => b
def daysL (w : Str → Int) (b i : List Str × Int) : Int := sumO w b.1 (inP i.1) - b.2 + i.2
def layer (w : Str → Int) (b i : List Str × Int) : List Deed := ((b.1.filter fun m => !decide (m ∈ i.1)).map (opD w)) ++ if 0 < daysL w b i then [.days (daysL w b i)] else []
def leastB (w : Str → Int) : List (List Str × Int) → List Deed
  | [] => []
  | b :: r => layer w b (innerOf r) ++ leastB w r
theorem layer_len (w : Str → Int) (b i : List Str × Int) : (layer w b i).length ≤ b.1.length + 1 := by
  unfold layer
  rw [List.length_append, List.length_map]
  have := List.length_filter_le (fun m => !decide (m ∈ i.1)) b.1
  split
  · simp; omega
  · simp; omega
end PP
set_option Elab.async false
set_option linter.all false
set_option maxRecDepth 100000
set_option maxHeartbeats 4000000
namespace PP
open PySem L2
structure GoodR (r : List Deed) : Prop where
  nd : (r.flatMap opens).Nodup
  bk : ∀ r1 m r2, r = r1 ++ .back m :: r2 → m ∈ r1.flatMap opens ∧ m ∉ r1.flatMap backs
theorem GoodR.left {l r : List Deed} (h : GoodR (l ++ r)) : GoodR l :=
  ⟨by have := h.nd; rw [List.flatMap_append, List.nodup_append] at this; exact this.1, fun r1 m r2 e => h.bk r1 m (r2 ++ r) (by rw [e, List.append_assoc]; rfl)⟩
theorem good_vd : ∀ r : List Deed, GoodR r → vd [] ac0 r := by
  refine snoc_ind (fun _ => trivial) fun l d ih h => ?_
  have v := ih h.left
  have mk := (count_marks l v).1
  refine vd_snoc v ?_ ?_
  · rw [List.nil_append]
    cases d with
    | op m n =>
      have := h.nd
      rw [List.flatMap_append, List.nodup_append] at this
      exact fun q => this.2.2 m q m (by simp [opens]) rfl
    | _ => trivial
  · cases d with
    | op m n =>
      have := h.nd
      rw [List.flatMap_append, List.nodup_append] at this
      intro q
      have q : m ∈ marksOf l := q
      rw [mk, List.mem_filter] at q
      exact this.2.2 m q.1 m (by simp [opens]) rfl
    | back m =>
      obtain ⟨q1, q2⟩ := h.bk l m [] rfl
      show m ∈ marksOf l
      rw [mk, List.mem_filter]
      exact ⟨q1, decide_eq_true q2⟩
    | days n => trivial
    | pause n => trivial
theorem good_of {r : List Deed} (nd : (r.flatMap opens).Nodup) (h : vd [] ac0 r) : GoodR r := ⟨nd, fun r1 m r2 e => by
  rw [e] at h
  obtain ⟨v1, _, hok, _⟩ := vd_app h
  have hok : m ∈ marksOf r1 := hok
  rw [(count_marks r1 v1).1, List.mem_filter] at hok
  exact ⟨hok.1, of_decide_eq_true hok.2⟩⟩
def isOB : Deed → Bool
  | .op _ _ => true
  | .back _ => true
  | _ => false
theorem opens_ob : ∀ r : List Deed, (r.filter isOB).flatMap opens = r.flatMap opens
  | [] => rfl
  | d :: r => by
    have ih := opens_ob r
    cases d with
    | op m n =>
      show (Deed.op m n :: r.filter isOB).flatMap opens = _
      rw [List.flatMap_cons, List.flatMap_cons, ih]
    | back m =>
      show (Deed.back m :: r.filter isOB).flatMap opens = _
      rw [List.flatMap_cons, List.flatMap_cons, ih]
    | days n =>
      show (r.filter isOB).flatMap opens = _
      rw [List.flatMap_cons, ih]; rfl
    | pause n =>
      show (r.filter isOB).flatMap opens = _
      rw [List.flatMap_cons, ih]; rfl
theorem backs_ob : ∀ r : List Deed, (r.filter isOB).flatMap backs = r.flatMap backs
  | [] => rfl
  | d :: r => by
    have ih := backs_ob r
    cases d with
    | op m n =>
      show (Deed.op m n :: r.filter isOB).flatMap backs = _
      rw [List.flatMap_cons, List.flatMap_cons, ih]
    | back m =>
      show (Deed.back m :: r.filter isOB).flatMap backs = _
      rw [List.flatMap_cons, List.flatMap_cons, ih]
    | days n =>
      show (r.filter isOB).flatMap backs = _
      rw [List.flatMap_cons, ih]; rfl
    | pause n =>
      show (r.filter isOB).flatMap backs = _
      rw [List.flatMap_cons, ih]; rfl
theorem GoodR.ob {r : List Deed} (h : GoodR r) : GoodR (r.filter isOB) := ⟨by rw [opens_ob]; exact h.nd, fun r1 m r2 e => by
  obtain ⟨l1, l2, e1, e2, e3⟩ := List.filter_eq_append_iff.mp e
  obtain ⟨k1, k2, q1, q2, q3, q4⟩ := List.filter_eq_cons_iff.mp e3
  have := h.bk (l1 ++ k1) m k2 (by rw [e1, q1, List.append_assoc])
  have z : k1.filter isOB = [] := List.filter_eq_nil_iff.mpr q2
  rw [← e2]
  rw [List.flatMap_append, List.flatMap_append, ← opens_ob k1, ← backs_ob k1, z] at this
  rw [opens_ob, backs_ob]
  simpa using this⟩
theorem valid_of {r : List Deed} (h : GoodR r) (ok : ∀ d ∈ r, okD d) (hl : r.length ≤ 100000) : ValidRow r := ⟨ok, hl, good_vd r h⟩
/-- no takings-back -/
theorem good_bare {r : List Deed} (nd : (r.flatMap opens).Nodup) (hb : r.flatMap backs = []) : GoodR r := ⟨nd, fun r1 m r2 e => by
  have : m ∈ r.flatMap backs := by rw [e]; simp [backs]
  rw [hb] at this
  cases this⟩
theorem layer_opens (w : Str → Int) (b i : List Str × Int) : (layer w b i).flatMap opens = b.1.filter fun m => !decide (m ∈ i.1) := by
  unfold layer
  rw [List.flatMap_append]
  have e : ∀ l : List Str, (l.map (opD w)).flatMap opens = l := fun l => by
    induction l with
    | nil => rfl
    | cons m l ih => rw [List.map_cons, List.flatMap_cons, ih]; rfl
  rw [e]
  split
  · simp [opens]
  · simp
theorem layer_backs (w : Str → Int) (b i : List Str × Int) : (layer w b i).flatMap backs = [] := by
  unfold layer
  rw [List.flatMap_append]
  have e : ∀ l : List Str, (l.map (opD w)).flatMap backs = [] := fun l => by
    induction l with
    | nil => rfl
    | cons m l ih => rw [List.map_cons, List.flatMap_cons, ih]; rfl
  rw [e]
  split
  · simp [backs]
  · simp
theorem least_backs (w : Str → Int) : ∀ bs : List (List Str × Int), (leastB w bs).flatMap backs = []
  | [] => rfl
  | b :: r => by rw [leastB, List.flatMap_append, layer_backs, least_backs w r]; rfl
/-- sets within one another -/
def Nest (bs : List (List Str × Int)) : Prop := bs.Pairwise fun b c => ∀ m ∈ c.1, m ∈ b.1
theorem least_opens (w : Str → Int) : ∀ bs : List (List Str × Int), Nest bs → (∀ b ∈ bs, b.1.Nodup) → ((leastB w bs).flatMap opens).Nodup ∧ ∀ m, m ∈ (leastB w bs).flatMap opens ↔ m ∈ (innerOf bs).1
  | [], _, _ => ⟨List.nodup_nil, fun m => by simp [leastB, innerOf]⟩
  | b :: r, hn, nd => by
    have hn' := List.pairwise_cons.mp hn
    obtain ⟨h1, h2⟩ := least_opens w r hn'.2 fun x hx => nd x (by simp [hx])
    have inb : ∀ m ∈ (innerOf r).1, m ∈ b.1 := fun m hm => by
      cases r with
      | nil => cases hm
      | cons c r => exact hn'.1 c (by simp) m hm
    rw [leastB, List.flatMap_append, layer_opens]
    refine ⟨?_, fun m => ?_⟩
    · rw [List.nodup_append]
      refine ⟨(nd b (by simp)).filter _, h1, fun x hx y hy e => ?_⟩
      subst e
      have := (List.mem_filter.mp hx).2
      have hy := (h2 x).mp hy
      simp [hy] at this
    · rw [List.mem_append, List.mem_filter, h2]
      show _ ↔ m ∈ b.1
      by_cases q : m ∈ (innerOf r).1
      · simp [q, inb m q]
      · simp [q]
theorem layer_ok {w : Str → Int} {b i : List Str × Int} (h : ∀ m ∈ b.1, MarkOk m ∧ 0 < w m) : ∀ d ∈ layer w b i, okD d := fun d hd => by
  unfold layer at hd
  rcases List.mem_append.mp hd with hd | hd
  · obtain ⟨m, hm, rfl⟩ := List.mem_map.mp hd
    exact h m (List.mem_filter.mp hm).1
  · split at hd
    · next q => rw [List.mem_singleton.mp hd]; exact q
    · cases hd
theorem least_ok {w : Str → Int} : ∀ {bs : List (List Str × Int)}, (∀ b ∈ bs, ∀ m ∈ b.1, MarkOk m ∧ 0 < w m) → ∀ d ∈ leastB w bs, okD d
  | [], _, d, hd => by cases hd
  | b :: r, h, d, hd => by
    rw [leastB] at hd
    rcases List.mem_append.mp hd with hd | hd
    · exact layer_ok (h b (by simp)) d hd
    · exact least_ok (fun x hx => h x (by simp [hx])) d hd
theorem least_len {w : Str → Int} : ∀ {bs : List (List Str × Int)}, (∀ b ∈ bs, b.1.length ≤ 60) → (leastB w bs).length ≤ 61 * bs.length
  | [], _ => Nat.zero_le _
  | b :: r, h => by
    have ih := least_len (w := w) fun x (hx : x ∈ r) => h x (by simp [hx])
    have := layer_len w b (innerOf r)
    have := h b (by simp)
    rw [leastB, List.length_append, List.length_cons]
    omega
end PP
set_option Elab.async false
set_option linter.all false
set_option maxRecDepth 100000
set_option maxHeartbeats 4000000
namespace PP
open PySem L2
theorem zs_behind {row : List Deed} (hv : ValidRow row) (d : Deed) : acOf (row ++ [d]) = (acOf row).step d := by
  show ac0.run (row ++ [d]) = (ac0.run row).step d
  rw [run_app]; rfl
end PP
set_option Elab.async false
set_option linter.all false
set_option maxRecDepth 100000
set_option maxHeartbeats 4000000
set_option Elab.async false
set_option linter.all false
set_option maxRecDepth 100000
set_option maxHeartbeats 4000000
namespace PP
open PySem L2
theorem pw_total {α : Type} {R : α → α → Prop} : ∀ {l : List α}, l.Pairwise R → ∀ {a b : α}, a ∈ l → b ∈ l → a = b ∨ R a b ∨ R b a
  | x :: l, h, a, b, ha, hb => by
    rw [List.pairwise_cons] at h
    rcases List.mem_cons.mp ha with e1 | e1
    · rcases List.mem_cons.mp hb with e2 | e2
      · exact .inl (e1.trans e2.symm)
      · exact .inr (.inl (e1 ▸ h.1 b e2))
    · rcases List.mem_cons.mp hb with e2 | e2
      · exact .inr (.inr (e2 ▸ h.1 a e1))
      · exact pw_total h.2 e1 e2
end PP
set_option Elab.async false
set_option linter.all false
set_option maxRecDepth 100000
set_option maxHeartbeats 4000000
set_option Elab.async false
set_option linter.all false
set_option maxRecDepth 100000
set_option maxHeartbeats 4000000
set_option Elab.async false
set_option linter.all false
set_option maxRecDepth 100000
set_option maxHeartbeats 4000000
namespace PP
open PySem L2
/-- what bars tell of a set -/
def tellB (w : Str → Int) (Q : Str → Bool) : List (List Str × Int) → Int
  | [] => 0
  | b :: r => max (tellB w Q r) (b.2 - sumO w b.1 Q)
theorem gl_opens {w : Str → Int} {Q : Str → Bool} : ∀ (l : List Str) (x : Int), gl Q x (l.map (opD w)) = x + ((l.filter Q).map w).sum
  | [], x => by simp [gl]
  | m :: l, x => by
    show gl Q (if Q m then x + w m else x) (l.map (opD w)) = _
    rw [gl_opens l]
    by_cases h : Q m = true
    · rw [if_pos h, List.filter_cons_of_pos h, List.map_cons, List.sum_cons]; omega
    · rw [if_neg h, List.filter_cons_of_neg h]
theorem sum_split (w : Str → Int) (Q : Str → Bool) : ∀ l : List Str, ((l.filter Q).map w).sum + ((l.filter fun m => !Q m).map w).sum = (l.map w).sum
  | [] => rfl
  | m :: l => by
    have ih := sum_split w Q l
    by_cases h : Q m = true
    · rw [List.filter_cons_of_pos h, List.filter_cons_of_neg (by rw [h]; decide), List.map_cons, List.map_cons, List.sum_cons, List.sum_cons]; omega
    · rw [List.filter_cons_of_neg h, List.filter_cons_of_pos (by simpa using h), List.map_cons, List.map_cons, List.sum_cons, List.sum_cons]; omega
theorem sum_perm_split {w : Str → Int} {c i : List Str} (hc : c.Nodup) (hi : i.Nodup) (sub : ∀ m ∈ i, m ∈ c) (Q : Str → Bool) : ((c.filter Q).map w).sum = (((c.filter fun m => !decide (m ∈ i)).filter Q).map w).sum + ((i.filter Q).map w).sum := by
  have h := sum_split w (fun m => decide (m ∈ i)) (c.filter Q)
  have e1 : (((c.filter Q).filter fun m => decide (m ∈ i)).map w).sum = ((i.filter Q).map w).sum := perm_sum ((List.perm_ext_iff_of_nodup ((hc.filter _).filter _) (hi.filter _)).mpr fun x => by
    rw [List.mem_filter, List.mem_filter, List.mem_filter, decide_eq_true_eq]
    exact ⟨fun h => ⟨h.2, h.1.2⟩, fun h => ⟨⟨sub x h.1, h.2⟩, h.1⟩⟩)
  have e2 : ((c.filter Q).filter fun m => !decide (m ∈ i)) = (c.filter fun m => !decide (m ∈ i)).filter Q := by
    rw [List.filter_filter, List.filter_filter]
    exact List.filter_congr fun x _ => Bool.and_comm _ _
  rw [e1, e2] at h
  omega
/-- the going through the least row: the marks of the bars that are still to come, what they lack -/
theorem gl_least {w : Str → Int} (w0 : ∀ m, 0 ≤ w m) {Q : Str → Bool} : ∀ (bs : List (List Str × Int)) (x : Int), 0 ≤ x → Nest bs → (∀ b ∈ bs, b.1.Nodup) → (∀ p ∈ bs.zip bs.tail, p.1.2 - sumO w p.1.1 (inP p.2.1) ≤ p.2.2) → (∀ l b, bs = l ++ [b] → b.2 ≤ sumO w b.1 (inP [])) → (∀ b ∈ bs, 0 ≤ b.2) →
    gl Q x (leastB w bs) = max (tellB w Q bs) (match bs with
      | [] => x
      | b :: _ => x + b.2 - sumO w b.1 Q)
  | [], x, hx, _, _, _, _, _ => by
    show x = max 0 x
    omega
  | b :: r, x, hx, hn, nd, hd, hl, hp => by
    have hn' := List.pairwise_cons.mp hn
    have nb := nd b (by simp)
    have ni : (innerOf r).1.Nodup := by
      cases r with
      | nil => exact List.nodup_nil
      | cons c r => exact nd c (by simp)
    have sub : ∀ m ∈ (innerOf r).1, m ∈ b.1 := fun m hm => by
      cases r with
      | nil => cases hm
      | cons c r => exact hn'.1 c (by simp) m hm
    have days0 : 0 ≤ daysL w b (innerOf r) := by
      unfold daysL
      cases r with
      | nil =>
        have h1 : b.2 ≤ sumO w b.1 (inP []) := hl [] b rfl
        show 0 ≤ sumO w b.1 (inP []) - b.2 + 0
        omega
      | cons c r =>
        have h1 : b.2 - sumO w b.1 (inP c.1) ≤ c.2 := hd (b, c) (by simp [List.zip])
        show 0 ≤ sumO w b.1 (inP c.1) - b.2 + c.2
        omega
    have step : gl Q x (layer w b (innerOf r)) = max 0 (x + (((b.1.filter fun m => !decide (m ∈ (innerOf r).1)).filter Q).map w).sum - daysL w b (innerOf r)) := by
      have nn : 0 ≤ (((b.1.filter fun m => !decide (m ∈ (innerOf r).1)).filter Q).map w).sum := by
        generalize (b.1.filter fun m => !decide (m ∈ (innerOf r).1)).filter Q = l
        induction l with
        | nil => exact Int.le_refl 0
        | cons m l ih => rw [List.map_cons, List.sum_cons]; have := w0 m; omega
      unfold layer
      rw [gl_app, gl_opens]
      by_cases q : 0 < daysL w b (innerOf r)
      · rw [if_pos q]; rfl
      · rw [if_neg q]
        show x + _ = _
        omega
    have ih := gl_least w0 (Q := Q) r (gl Q x (layer w b (innerOf r))) (by rw [step]; omega) hn'.2 (fun y hy => nd y (by simp [hy])) (fun p hp' => hd p (by
      cases r with
      | nil => simp at hp'
      | cons c r => exact List.mem_cons_of_mem _ hp')) (fun l b' e => hl (b :: l) b' (by rw [e]; rfl)) fun y hy => hp y (by simp [hy])
    rw [leastB, gl_app, ih, step]
    have sp := sum_perm_split (w := w) nb ni sub Q
    have spN := sum_perm_split (w := w) nb ni sub fun m => !Q m
    have tot := sum_split w Q b.1
    have toti := sum_split w Q (innerOf r).1
    have totd := sum_split w Q (b.1.filter fun m => !decide (m ∈ (innerOf r).1))
    have eS : sumO w b.1 Q = ((b.1.filter fun m => !Q m).map w).sum := rfl
    have eD : sumO w b.1 (inP (innerOf r).1) = ((b.1.filter fun m => !decide (m ∈ (innerOf r).1)).map w).sum := rfl
    have eN : ((b.1.filter fun m => !Q m).map w).sum = (((b.1.filter fun m => !decide (m ∈ (innerOf r).1)).filter fun m => !Q m).map w).sum + sumO w (innerOf r).1 Q := spN
    unfold daysL
    show max (tellB w Q r) _ = max (max (tellB w Q r) (b.2 - sumO w b.1 Q)) (x + b.2 - sumO w b.1 Q)
    rw [eD, eS, eN, ← totd]
    generalize (((b.1.filter fun m => !decide (m ∈ (innerOf r).1)).filter Q).map w).sum = S
    generalize (((b.1.filter fun m => !decide (m ∈ (innerOf r).1)).filter fun m => !Q m).map w).sum = N
    clear hn nd hd hl hp hn' ni sub days0 step ih sp spN toti totd eD eN
    cases r with
    | nil =>
      show max 0 (max 0 (x + S - (S + N - b.2 + 0))) = max (max 0 (b.2 - (N + sumO w [] Q))) (x + b.2 - (N + sumO w [] Q))
      have z : sumO w [] Q = 0 := rfl
      omega
    | cons c r =>
      show max (max (tellB w Q r) (c.2 - sumO w c.1 Q)) (max 0 (x + S - (S + N - b.2 + c.2)) + c.2 - sumO w c.1 Q) = max (max (max (tellB w Q r) (c.2 - sumO w c.1 Q)) (b.2 - (N + sumO w c.1 Q))) (x + b.2 - (N + sumO w c.1 Q))
      omega
theorem tellB_ge (w : Str → Int) (Q : Str → Bool) : ∀ bs : List (List Str × Int), 0 ≤ tellB w Q bs ∧ ∀ b ∈ bs, b.2 - sumO w b.1 Q ≤ tellB w Q bs
  | [] => ⟨Int.le_refl 0, by simp⟩
  | b :: r => by
    obtain ⟨h1, h2⟩ := tellB_ge w Q r
    refine ⟨by show 0 ≤ max _ _; omega, fun c hc => ?_⟩
    show _ ≤ max (tellB w Q r) (b.2 - sumO w b.1 Q)
    rcases List.mem_cons.mp hc with rfl | hc
    · omega
    · have := h2 c hc; omega
theorem tellB_at (w : Str → Int) (Q : Str → Bool) : ∀ bs : List (List Str × Int), tellB w Q bs = 0 ∨ ∃ b ∈ bs, tellB w Q bs = b.2 - sumO w b.1 Q
  | [] => .inl rfl
  | b :: r => by
    show max (tellB w Q r) (b.2 - sumO w b.1 Q) = 0 ∨ ∃ c ∈ b :: r, max (tellB w Q r) (b.2 - sumO w b.1 Q) = c.2 - sumO w c.1 Q
    by_cases h : tellB w Q r ≤ b.2 - sumO w b.1 Q
    · exact .inr ⟨b, by simp, by omega⟩
    · rcases tellB_at w Q r with q | ⟨c, hc, q⟩
      · exact .inl (by omega)
      · exact .inr ⟨c, by simp [hc], by omega⟩
end PP
set_option Elab.async false
set_option linter.all false
set_option maxRecDepth 100000
set_option maxHeartbeats 4000000
namespace PP
open PySem L2
def cntOf : D → Option Int
  | .int n => if 0 < n then some n else none
  | _ => none
def mkOf : D → Option Str
  | .str m => if isMarkD (.str m) = true then some m else none
  | _ => none
def one1 (f : D → Option Deed) : List D → Option Deed
  | [x] => f x
  | _ => none
def two2 (f : D → D → Option Deed) : List D → Option Deed
  | [x, y] => f x y
  | _ => none
def opF (x y : D) : Option Deed := match mkOf x, cntOf y with
  | some m, some n => some (.op m n)
  | _, _ => none
def deedW (w : Str) (r : List D) : Option Deed :=
  if w = ("open" : Str) then two2 opF r
  else if w = ("days" : Str) then one1 (fun x => (cntOf x).map .days) r
  else if w = ("pause" : Str) then one1 (fun x => (cntOf x).map .pause) r
  else if w = ("back" : Str) then one1 (fun x => (mkOf x).map .back) r
  else none
def deedL : List D → Option Deed
  | .str w :: r => deedW w r
  | _ => none
def deedP : D → Option Deed
  | .lst xs => deedL xs
  | .tup xs => deedL xs
  | _ => none
def optD : Option Deed → D
  | some d => d.d
  | none => .non
def OkIt (x : D) : Prop := bltTy (tyD x) = true ∧ ∀ m, x = .str m → m.length ≤ sizeLine
structure OkDeed (x : D) : Prop where
  ty : bltTy (tyD x) = true
  kt : ∀ xs, x ≠ .kt xs
  it : ∀ xs, x = .lst xs ∨ x = .tup xs → ∀ y ∈ xs, OkIt y
def conDeedG : Con := fun as c K _ => ∃ x, as = [some x] ∧ OkDeed x ∧ K (.fz (optD (deedP x))) c
theorem cnt_true {x : D} (h : isCountD x = true) : ∃ n, x = .int n ∧ 0 < n ∧ cntOf x = some n := by
  cases x with
  | int n => exact ⟨n, rfl, of_decide_eq_true h, if_pos (of_decide_eq_true h)⟩
  | _ => cases h
theorem cnt_false {x : D} (h : isCountD x = false) : cntOf x = none := by
  cases x with
  | int n => exact if_neg (of_decide_eq_false h)
  | _ => rfl
theorem mk_true {x : D} (h : isMarkD x = true) : ∃ m, x = .str m ∧ mkOf x = some m := by
  cases x with
  | str m => exact ⟨m, rfl, if_pos h⟩
  | _ => cases h
theorem mk_false {x : D} (h : isMarkD x = false) : mkOf x = none := by
  cases x with
  | str m => exact if_neg (by rw [h]; decide)
  | _ => rfl
theorem strV (a b : Str) : decide (V.str a = V.str b) = decide (a = b) := by
  by_cases h : a = b
  · subst h; simp
  · simp [h]
def tailD : List Sx := c_deed_of.drop 2
section
variable {Γ : Env} (h2 : Γ.fn "is_mark" = some (.pl conIsMark true [])) (h3 : Γ.fn "is_count" = some (.pl conIsCount true []))
include h2 h3
theorem deed_tail {n : En} {c : Stm} {w : Str} {r : List D} {mk : List D → D} (hmk : mk = D.lst ∨ mk = D.tup) (ok : ∀ y ∈ r, OkIt y)
    (hk : n.rt (.fz (optD (deedW w r))) ⟨[some (.fz (mk (.str w :: r))), some (.fz (.str w))], c⟩) : exSs Γ tailD n ⟨[some (.fz (mk (.str w :: r))), some (.fz (.str w))], c⟩ := by
  unfold deedW at hk
  rcases hmk with rfl | rfl
  · (conv => whnf)
    refine And.intro trivial ?_
    (conv => whnf)
    (generalize e1 : truth _ = bb; cases bb <;> try simp only [truth, R.d, toV, if_true, Bool.false_eq_true, if_false, decide_eq_true_eq, decide_eq_false_iff_not, Bool.not_eq_true', Bool.not_eq_false', V.int.injEq, V.str.injEq, inD_strs, List.length_map, Int.ofNat_inj, Decidable.not_not] at e1)
    · rw [if_neg e1] at hk
      have fin : ∀ n : En, n.rt (.fz (optD (if w = ("back" : Str) then one1 (fun x => (mkOf x).map .back) r else none))) ⟨[some (.fz (D.lst (.str w :: r))), some (.fz (.str w))], c⟩ → exSs Γ (tailD.drop 2) n ⟨[some (.fz (D.lst (.str w :: r))), some (.fz (.str w))], c⟩ := fun n hk => by
        (conv => whnf)
        refine And.intro trivial ?_
        (conv => whnf)
        (generalize e2 : truth _ = bb; cases bb <;> try simp only [truth, R.d, toV, if_true, Bool.false_eq_true, if_false, decide_eq_true_eq, decide_eq_false_iff_not, Bool.not_eq_true', Bool.not_eq_false', V.int.injEq, V.str.injEq, inD_strs, List.length_map, Int.ofNat_inj, Decidable.not_not] at e2)
        · rw [if_neg e2] at hk
          ((repeat ((conv => whnf); refine And.intro (by first | exact rfl | exact trivial | exact ⟨rfl, rfl⟩ | exact ⟨rfl, strs_scal _⟩ | exact ⟨trivial, trivial⟩ | assumption | decide | exact Nat.le_of_ble_eq_true rfl | omega) ?_)); try (conv => whnf))
          exact hk
        · rw [if_pos e2] at hk
          ((repeat ((conv => whnf); refine And.intro (by first | exact rfl | exact trivial | exact ⟨rfl, rfl⟩ | exact ⟨rfl, strs_scal _⟩ | exact ⟨trivial, trivial⟩ | assumption | decide | exact Nat.le_of_ble_eq_true rfl | omega) ?_)); try (conv => whnf))
          (generalize e3 : truth _ = bb; cases bb <;> try simp only [truth, R.d, toV, if_true, Bool.false_eq_true, if_false, decide_eq_true_eq, decide_eq_false_iff_not, Bool.not_eq_true', Bool.not_eq_false', V.int.injEq, V.str.injEq, inD_strs, List.length_map, Int.ofNat_inj, Decidable.not_not] at e3)
          · rcases r with _ | ⟨x, _ | ⟨y, r⟩⟩
            · ((repeat ((conv => whnf); refine And.intro (by first | exact rfl | exact trivial | exact ⟨rfl, rfl⟩ | exact ⟨rfl, strs_scal _⟩ | exact ⟨trivial, trivial⟩ | assumption | decide | exact Nat.le_of_ble_eq_true rfl | omega) ?_)); try (conv => whnf)); exact hk
            · exact absurd rfl e3
            · ((repeat ((conv => whnf); refine And.intro (by first | exact rfl | exact trivial | exact ⟨rfl, rfl⟩ | exact ⟨rfl, strs_scal _⟩ | exact ⟨trivial, trivial⟩ | assumption | decide | exact Nat.le_of_ble_eq_true rfl | omega) ?_)); try (conv => whnf)); exact hk
          · rcases r with _ | ⟨x, _ | ⟨y, r⟩⟩
            · cases e3
            · have ox := ok x (by simp)
              ((repeat (first | ((conv => whnf); refine And.intro (by first | exact rfl | exact trivial | exact ⟨rfl, rfl⟩ | exact ⟨rfl, strs_scal _⟩ | exact ⟨trivial, trivial⟩ | assumption | decide | exact Nat.le_of_ble_eq_true rfl | omega) ?_) | ((conv => whnf); first | rw [h2]))); try (conv => whnf))
              refine ⟨x, rfl, ox.1, ox.2, fun _ => rfl, ?_⟩
              cases q : isMarkD x with
              | true =>
                obtain ⟨m, rfl, e5⟩ := mk_true q
                rw [show one1 (fun x => (mkOf x).map Deed.back) [D.str m] = some (.back m) by show (mkOf _).map _ = _; rw [e5]; rfl] at hk
                subst e2
                ((repeat ((conv => whnf); refine And.intro (by first | exact rfl | exact trivial | exact ⟨rfl, rfl⟩ | exact ⟨rfl, strs_scal _⟩ | exact ⟨trivial, trivial⟩ | assumption | decide | exact Nat.le_of_ble_eq_true rfl | omega) ?_)); try (conv => whnf)); exact hk
              | false =>
                rw [show one1 (fun x => (mkOf x).map Deed.back) [x] = none by show (mkOf _).map _ = _; rw [mk_false q]; rfl] at hk
                ((repeat ((conv => whnf); refine And.intro (by first | exact rfl | exact trivial | exact ⟨rfl, rfl⟩ | exact ⟨rfl, strs_scal _⟩ | exact ⟨trivial, trivial⟩ | assumption | decide | exact Nat.le_of_ble_eq_true rfl | omega) ?_)); try (conv => whnf)); exact hk
            · simp at e3
              omega
      (conv => whnf)
      refine And.intro (Nat.le_of_ble_eq_true rfl) ?_
      (conv => whnf)
      refine And.intro ⟨rfl, rfl⟩ ?_
      (conv => whnf)
      rw [show inD (D.str w) [(R.fz (D.str (Str.ofString "days"))).d, (R.fz (D.str (Str.ofString "pause"))).d] = decide (w ∈ [("days" : Str), ("pause" : Str)]) from inD_strs w [_, _]]
      (generalize e2 : truth _ = bb; cases bb <;> try simp only [truth, R.d, toV, if_true, Bool.false_eq_true, if_false, decide_eq_true_eq, decide_eq_false_iff_not, Bool.not_eq_true', Bool.not_eq_false', V.int.injEq, V.str.injEq, inD_strs, List.length_map, Int.ofNat_inj, Decidable.not_not] at e2)
      · have n1 : w ≠ ("days" : Str) := fun e => e2 (by rw [e]; simp)
        have n2 : w ≠ ("pause" : Str) := fun e => e2 (by rw [e]; simp)
        rw [if_neg n1, if_neg n2] at hk
        exact And.intro trivial (fin n hk)
      · have nb : ¬ w = ("back" : Str) := fun e => by subst e; revert e2; decide
        have hk : n.rt (.fz (optD (one1 (fun x => (cntOf x).map (fun k => if w = ("days" : Str) then .days k else .pause k)) r))) ⟨[some (.fz (D.lst (.str w :: r))), some (.fz (.str w))], c⟩ := by
          by_cases e : w = ("days" : Str)
          · rw [if_pos e] at hk
            have : (fun x => (cntOf x).map (fun k => if w = ("days" : Str) then Deed.days k else .pause k)) = fun x => (cntOf x).map .days := by funext x; congr 1; funext k; rw [if_pos e]
            rw [this]; exact hk
          · have e3 : w = ("pause" : Str) := by
              simp only [List.mem_cons, List.mem_nil_iff, or_false] at e2
              exact e2.resolve_left e
            rw [if_neg e, if_pos e3] at hk
            have : (fun x => (cntOf x).map (fun k => if w = ("days" : Str) then Deed.days k else .pause k)) = fun x => (cntOf x).map .pause := by funext x; congr 1; funext k; rw [if_neg e]
            rw [this]; exact hk
        have fin2 : one1 (fun x => (cntOf x).map (fun k => if w = ("days" : Str) then Deed.days k else .pause k)) r = none → exSs Γ (tailD.drop 2) n ⟨[some (.fz (D.lst (.str w :: r))), some (.fz (.str w))], c⟩ := fun e => by
          rw [e] at hk
          exact fin n (by rw [if_neg nb]; exact hk)
        ((repeat ((conv => whnf); refine And.intro (by first | exact rfl | exact trivial | exact ⟨rfl, rfl⟩ | exact ⟨rfl, strs_scal _⟩ | exact ⟨trivial, trivial⟩ | assumption | decide | exact Nat.le_of_ble_eq_true rfl | omega) ?_)); try (conv => whnf))
        (generalize e3 : truth _ = bb; cases bb <;> try simp only [truth, R.d, toV, if_true, Bool.false_eq_true, if_false, decide_eq_true_eq, decide_eq_false_iff_not, Bool.not_eq_true', Bool.not_eq_false', V.int.injEq, V.str.injEq, inD_strs, List.length_map, Int.ofNat_inj, Decidable.not_not] at e3)
        · refine fin2 ?_
          rcases r with _ | ⟨x, _ | ⟨y, r⟩⟩
          · rfl
          · exact absurd rfl e3
          · rfl
        · rcases r with _ | ⟨x, _ | ⟨y, r⟩⟩
          · cases e3
          · have ox := ok x (by simp)
            ((repeat (first | ((conv => whnf); refine And.intro (by first | exact rfl | exact trivial | exact ⟨rfl, rfl⟩ | exact ⟨rfl, strs_scal _⟩ | exact ⟨trivial, trivial⟩ | assumption | decide | exact Nat.le_of_ble_eq_true rfl | omega) ?_) | ((conv => whnf); first | rw [h3]))); try (conv => whnf))
            refine ⟨x, rfl, ox.1, fun _ => rfl, ?_⟩
            cases q : isCountD x with
            | true =>
              obtain ⟨k, rfl, _, e5⟩ := cnt_true q
              rw [show one1 (fun x => (cntOf x).map (fun k => if w = ("days" : Str) then Deed.days k else .pause k)) [.int k] = some (if w = ("days" : Str) then .days k else .pause k) by show (cntOf _).map _ = _; rw [e5]; rfl] at hk
              ((repeat ((conv => whnf); refine And.intro (by first | exact rfl | exact trivial | exact ⟨rfl, rfl⟩ | exact ⟨rfl, strs_scal _⟩ | exact ⟨trivial, trivial⟩ | assumption | decide | exact Nat.le_of_ble_eq_true rfl | omega) ?_)); try (conv => whnf))
              by_cases e : w = ("days" : Str)
              · rw [if_pos e] at hk
                subst e
                exact hk
              · have e3 : w = ("pause" : Str) := by
                  simp only [List.mem_cons, List.mem_nil_iff, or_false] at e2
                  exact e2.resolve_left e
                rw [if_neg e] at hk
                subst e3
                exact hk
            | false => exact And.intro trivial (fin2 (by show (cntOf _).map _ = _; rw [cnt_false q]; rfl))
          · simp at e3
            omega
    · subst e1
      rw [if_pos rfl] at hk
      ((repeat ((conv => whnf); refine And.intro (by first | exact rfl | exact trivial | exact ⟨rfl, rfl⟩ | exact ⟨rfl, strs_scal _⟩ | exact ⟨trivial, trivial⟩ | assumption | decide | exact Nat.le_of_ble_eq_true rfl | omega) ?_)); try (conv => whnf))
      (generalize e2 : truth _ = bb; cases bb <;> try simp only [truth, R.d, toV, if_true, Bool.false_eq_true, if_false, decide_eq_true_eq, decide_eq_false_iff_not, Bool.not_eq_true', Bool.not_eq_false', V.int.injEq, V.str.injEq, inD_strs, List.length_map, Int.ofNat_inj, Decidable.not_not] at e2)
      · have e3 : two2 opF r = none := by
          rcases r with _ | ⟨x, _ | ⟨y, _ | ⟨z, r⟩⟩⟩
          · rfl
          · rfl
          · exact absurd rfl e2
          · rfl
        rw [e3] at hk
        ((repeat ((conv => whnf); refine And.intro (by first | exact rfl | exact trivial | exact ⟨rfl, rfl⟩ | exact ⟨rfl, strs_scal _⟩ | exact ⟨trivial, trivial⟩ | assumption | decide | exact Nat.le_of_ble_eq_true rfl | omega) ?_)); try (conv => whnf))
        exact hk
      · rcases r with _ | ⟨x, _ | ⟨y, _ | ⟨z, r⟩⟩⟩
        · cases e2
        · cases e2
        · have ox := ok x (by simp)
          have oy := ok y (by simp)
          ((repeat (first | ((conv => whnf); refine And.intro (by first | exact rfl | exact trivial | exact ⟨rfl, rfl⟩ | exact ⟨rfl, strs_scal _⟩ | exact ⟨trivial, trivial⟩ | assumption | decide | exact Nat.le_of_ble_eq_true rfl | omega) ?_) | ((conv => whnf); first | rw [h2]))); try (conv => whnf))
          refine ⟨x, rfl, ox.1, ox.2, fun _ => rfl, ?_⟩
          cases q : isMarkD x with
          | true =>
            obtain ⟨m, rfl, e5⟩ := mk_true q
            ((repeat (first | ((conv => whnf); refine And.intro (by first | exact rfl | exact trivial | exact ⟨rfl, rfl⟩ | exact ⟨rfl, strs_scal _⟩ | exact ⟨trivial, trivial⟩ | assumption | decide | exact Nat.le_of_ble_eq_true rfl | omega) ?_) | ((conv => whnf); first | rw [h3]))); try (conv => whnf))
            refine ⟨y, rfl, oy.1, fun _ => rfl, ?_⟩
            cases q2 : isCountD y with
            | true =>
              obtain ⟨k, rfl, _, e6⟩ := cnt_true q2
              rw [show two2 opF [.str m, .int k] = some (.op m k) by show opF _ _ = _; unfold opF; rw [e5, e6]] at hk
              ((repeat ((conv => whnf); refine And.intro (by first | exact rfl | exact trivial | exact ⟨rfl, rfl⟩ | exact ⟨rfl, strs_scal _⟩ | exact ⟨trivial, trivial⟩ | assumption | decide | exact Nat.le_of_ble_eq_true rfl | omega) ?_)); try (conv => whnf)); exact hk
            | false =>
              rw [show two2 opF [.str m, y] = none by show opF _ _ = _; unfold opF; rw [e5, cnt_false q2]] at hk
              ((repeat ((conv => whnf); refine And.intro (by first | exact rfl | exact trivial | exact ⟨rfl, rfl⟩ | exact ⟨rfl, strs_scal _⟩ | exact ⟨trivial, trivial⟩ | assumption | decide | exact Nat.le_of_ble_eq_true rfl | omega) ?_)); try (conv => whnf)); exact hk
          | false =>
            rw [show two2 opF [x, y] = none by show opF _ _ = _; unfold opF; rw [mk_false q]] at hk
            ((repeat ((conv => whnf); refine And.intro (by first | exact rfl | exact trivial | exact ⟨rfl, rfl⟩ | exact ⟨rfl, strs_scal _⟩ | exact ⟨trivial, trivial⟩ | assumption | decide | exact Nat.le_of_ble_eq_true rfl | omega) ?_)); try (conv => whnf)); exact hk
        · simp at e2
          omega
  · (conv => whnf)
    refine And.intro trivial ?_
    (conv => whnf)
    (generalize e1 : truth _ = bb; cases bb <;> try simp only [truth, R.d, toV, if_true, Bool.false_eq_true, if_false, decide_eq_true_eq, decide_eq_false_iff_not, Bool.not_eq_true', Bool.not_eq_false', V.int.injEq, V.str.injEq, inD_strs, List.length_map, Int.ofNat_inj, Decidable.not_not] at e1)
    · rw [if_neg e1] at hk
      have fin : ∀ n : En, n.rt (.fz (optD (if w = ("back" : Str) then one1 (fun x => (mkOf x).map .back) r else none))) ⟨[some (.fz (D.tup (.str w :: r))), some (.fz (.str w))], c⟩ → exSs Γ (tailD.drop 2) n ⟨[some (.fz (D.tup (.str w :: r))), some (.fz (.str w))], c⟩ := fun n hk => by
        (conv => whnf)
        refine And.intro trivial ?_
        (conv => whnf)
        (generalize e2 : truth _ = bb; cases bb <;> try simp only [truth, R.d, toV, if_true, Bool.false_eq_true, if_false, decide_eq_true_eq, decide_eq_false_iff_not, Bool.not_eq_true', Bool.not_eq_false', V.int.injEq, V.str.injEq, inD_strs, List.length_map, Int.ofNat_inj, Decidable.not_not] at e2)
        · rw [if_neg e2] at hk
          ((repeat ((conv => whnf); refine And.intro (by first | exact rfl | exact trivial | exact ⟨rfl, rfl⟩ | exact ⟨rfl, strs_scal _⟩ | exact ⟨trivial, trivial⟩ | assumption | decide | exact Nat.le_of_ble_eq_true rfl | omega) ?_)); try (conv => whnf))
          exact hk
        · rw [if_pos e2] at hk
          ((repeat ((conv => whnf); refine And.intro (by first | exact rfl | exact trivial | exact ⟨rfl, rfl⟩ | exact ⟨rfl, strs_scal _⟩ | exact ⟨trivial, trivial⟩ | assumption | decide | exact Nat.le_of_ble_eq_true rfl | omega) ?_)); try (conv => whnf))
          (generalize e3 : truth _ = bb; cases bb <;> try simp only [truth, R.d, toV, if_true, Bool.false_eq_true, if_false, decide_eq_true_eq, decide_eq_false_iff_not, Bool.not_eq_true', Bool.not_eq_false', V.int.injEq, V.str.injEq, inD_strs, List.length_map, Int.ofNat_inj, Decidable.not_not] at e3)
          · rcases r with _ | ⟨x, _ | ⟨y, r⟩⟩
            · ((repeat ((conv => whnf); refine And.intro (by first | exact rfl | exact trivial | exact ⟨rfl, rfl⟩ | exact ⟨rfl, strs_scal _⟩ | exact ⟨trivial, trivial⟩ | assumption | decide | exact Nat.le_of_ble_eq_true rfl | omega) ?_)); try (conv => whnf)); exact hk
            · exact absurd rfl e3
            · ((repeat ((conv => whnf); refine And.intro (by first | exact rfl | exact trivial | exact ⟨rfl, rfl⟩ | exact ⟨rfl, strs_scal _⟩ | exact ⟨trivial, trivial⟩ | assumption | decide | exact Nat.le_of_ble_eq_true rfl | omega) ?_)); try (conv => whnf)); exact hk
          · rcases r with _ | ⟨x, _ | ⟨y, r⟩⟩
            · cases e3
            · have ox := ok x (by simp)
              ((repeat (first | ((conv => whnf); refine And.intro (by first | exact rfl | exact trivial | exact ⟨rfl, rfl⟩ | exact ⟨rfl, strs_scal _⟩ | exact ⟨trivial, trivial⟩ | assumption | decide | exact Nat.le_of_ble_eq_true rfl | omega) ?_) | ((conv => whnf); first | rw [h2]))); try (conv => whnf))
              refine ⟨x, rfl, ox.1, ox.2, fun _ => rfl, ?_⟩
              cases q : isMarkD x with
              | true =>
                obtain ⟨m, rfl, e5⟩ := mk_true q
                rw [show one1 (fun x => (mkOf x).map Deed.back) [D.str m] = some (.back m) by show (mkOf _).map _ = _; rw [e5]; rfl] at hk
                subst e2
                ((repeat ((conv => whnf); refine And.intro (by first | exact rfl | exact trivial | exact ⟨rfl, rfl⟩ | exact ⟨rfl, strs_scal _⟩ | exact ⟨trivial, trivial⟩ | assumption | decide | exact Nat.le_of_ble_eq_true rfl | omega) ?_)); try (conv => whnf)); exact hk
              | false =>
                rw [show one1 (fun x => (mkOf x).map Deed.back) [x] = none by show (mkOf _).map _ = _; rw [mk_false q]; rfl] at hk
                ((repeat ((conv => whnf); refine And.intro (by first | exact rfl | exact trivial | exact ⟨rfl, rfl⟩ | exact ⟨rfl, strs_scal _⟩ | exact ⟨trivial, trivial⟩ | assumption | decide | exact Nat.le_of_ble_eq_true rfl | omega) ?_)); try (conv => whnf)); exact hk
            · simp at e3
              omega
      (conv => whnf)
      refine And.intro (Nat.le_of_ble_eq_true rfl) ?_
      (conv => whnf)
      refine And.intro ⟨rfl, rfl⟩ ?_
      (conv => whnf)
      rw [show inD (D.str w) [(R.fz (D.str (Str.ofString "days"))).d, (R.fz (D.str (Str.ofString "pause"))).d] = decide (w ∈ [("days" : Str), ("pause" : Str)]) from inD_strs w [_, _]]
      (generalize e2 : truth _ = bb; cases bb <;> try simp only [truth, R.d, toV, if_true, Bool.false_eq_true, if_false, decide_eq_true_eq, decide_eq_false_iff_not, Bool.not_eq_true', Bool.not_eq_false', V.int.injEq, V.str.injEq, inD_strs, List.length_map, Int.ofNat_inj, Decidable.not_not] at e2)
      · have n1 : w ≠ ("days" : Str) := fun e => e2 (by rw [e]; simp)
        have n2 : w ≠ ("pause" : Str) := fun e => e2 (by rw [e]; simp)
        rw [if_neg n1, if_neg n2] at hk
        exact And.intro trivial (fin n hk)
      · have nb : ¬ w = ("back" : Str) := fun e => by subst e; revert e2; decide
        have hk : n.rt (.fz (optD (one1 (fun x => (cntOf x).map (fun k => if w = ("days" : Str) then .days k else .pause k)) r))) ⟨[some (.fz (D.tup (.str w :: r))), some (.fz (.str w))], c⟩ := by
          by_cases e : w = ("days" : Str)
          · rw [if_pos e] at hk
            have : (fun x => (cntOf x).map (fun k => if w = ("days" : Str) then Deed.days k else .pause k)) = fun x => (cntOf x).map .days := by funext x; congr 1; funext k; rw [if_pos e]
            rw [this]; exact hk
          · have e3 : w = ("pause" : Str) := by
              simp only [List.mem_cons, List.mem_nil_iff, or_false] at e2
              exact e2.resolve_left e
            rw [if_neg e, if_pos e3] at hk
            have : (fun x => (cntOf x).map (fun k => if w = ("days" : Str) then Deed.days k else .pause k)) = fun x => (cntOf x).map .pause := by funext x; congr 1; funext k; rw [if_neg e]
            rw [this]; exact hk
        have fin2 : one1 (fun x => (cntOf x).map (fun k => if w = ("days" : Str) then Deed.days k else .pause k)) r = none → exSs Γ (tailD.drop 2) n ⟨[some (.fz (D.tup (.str w :: r))), some (.fz (.str w))], c⟩ := fun e => by
          rw [e] at hk
          exact fin n (by rw [if_neg nb]; exact hk)
        ((repeat ((conv => whnf); refine And.intro (by first | exact rfl | exact trivial | exact ⟨rfl, rfl⟩ | exact ⟨rfl, strs_scal _⟩ | exact ⟨trivial, trivial⟩ | assumption | decide | exact Nat.le_of_ble_eq_true rfl | omega) ?_)); try (conv => whnf))
        (generalize e3 : truth _ = bb; cases bb <;> try simp only [truth, R.d, toV, if_true, Bool.false_eq_true, if_false, decide_eq_true_eq, decide_eq_false_iff_not, Bool.not_eq_true', Bool.not_eq_false', V.int.injEq, V.str.injEq, inD_strs, List.length_map, Int.ofNat_inj, Decidable.not_not] at e3)
        · refine fin2 ?_
          rcases r with _ | ⟨x, _ | ⟨y, r⟩⟩
          · rfl
          · exact absurd rfl e3
          · rfl
        · rcases r with _ | ⟨x, _ | ⟨y, r⟩⟩
          · cases e3
          · have ox := ok x (by simp)
            ((repeat (first | ((conv => whnf); refine And.intro (by first | exact rfl | exact trivial | exact ⟨rfl, rfl⟩ | exact ⟨rfl, strs_scal _⟩ | exact ⟨trivial, trivial⟩ | assumption | decide | exact Nat.le_of_ble_eq_true rfl | omega) ?_) | ((conv => whnf); first | rw [h3]))); try (conv => whnf))
            refine ⟨x, rfl, ox.1, fun _ => rfl, ?_⟩
            cases q : isCountD x with
            | true =>
              obtain ⟨k, rfl, _, e5⟩ := cnt_true q
              rw [show one1 (fun x => (cntOf x).map (fun k => if w = ("days" : Str) then Deed.days k else .pause k)) [.int k] = some (if w = ("days" : Str) then .days k else .pause k) by show (cntOf _).map _ = _; rw [e5]; rfl] at hk
              ((repeat ((conv => whnf); refine And.intro (by first | exact rfl | exact trivial | exact ⟨rfl, rfl⟩ | exact ⟨rfl, strs_scal _⟩ | exact ⟨trivial, trivial⟩ | assumption | decide | exact Nat.le_of_ble_eq_true rfl | omega) ?_)); try (conv => whnf))
              by_cases e : w = ("days" : Str)
              · rw [if_pos e] at hk
                subst e
                exact hk
              · have e3 : w = ("pause" : Str) := by
                  simp only [List.mem_cons, List.mem_nil_iff, or_false] at e2
                  exact e2.resolve_left e
                rw [if_neg e] at hk
                subst e3
                exact hk
            | false => exact And.intro trivial (fin2 (by show (cntOf _).map _ = _; rw [cnt_false q]; rfl))
          · simp at e3
            omega
    · subst e1
      rw [if_pos rfl] at hk
      ((repeat ((conv => whnf); refine And.intro (by first | exact rfl | exact trivial | exact ⟨rfl, rfl⟩ | exact ⟨rfl, strs_scal _⟩ | exact ⟨trivial, trivial⟩ | assumption | decide | exact Nat.le_of_ble_eq_true rfl | omega) ?_)); try (conv => whnf))
      (generalize e2 : truth _ = bb; cases bb <;> try simp only [truth, R.d, toV, if_true, Bool.false_eq_true, if_false, decide_eq_true_eq, decide_eq_false_iff_not, Bool.not_eq_true', Bool.not_eq_false', V.int.injEq, V.str.injEq, inD_strs, List.length_map, Int.ofNat_inj, Decidable.not_not] at e2)
      · have e3 : two2 opF r = none := by
          rcases r with _ | ⟨x, _ | ⟨y, _ | ⟨z, r⟩⟩⟩
          · rfl
          · rfl
          · exact absurd rfl e2
          · rfl
        rw [e3] at hk
        ((repeat ((conv => whnf); refine And.intro (by first | exact rfl | exact trivial | exact ⟨rfl, rfl⟩ | exact ⟨rfl, strs_scal _⟩ | exact ⟨trivial, trivial⟩ | assumption | decide | exact Nat.le_of_ble_eq_true rfl | omega) ?_)); try (conv => whnf))
        exact hk
      · rcases r with _ | ⟨x, _ | ⟨y, _ | ⟨z, r⟩⟩⟩
        · cases e2
        · cases e2
        · have ox := ok x (by simp)
          have oy := ok y (by simp)
          ((repeat (first | ((conv => whnf); refine And.intro (by first | exact rfl | exact trivial | exact ⟨rfl, rfl⟩ | exact ⟨rfl, strs_scal _⟩ | exact ⟨trivial, trivial⟩ | assumption | decide | exact Nat.le_of_ble_eq_true rfl | omega) ?_) | ((conv => whnf); first | rw [h2]))); try (conv => whnf))
          refine ⟨x, rfl, ox.1, ox.2, fun _ => rfl, ?_⟩
          cases q : isMarkD x with
          | true =>
            obtain ⟨m, rfl, e5⟩ := mk_true q
            ((repeat (first | ((conv => whnf); refine And.intro (by first | exact rfl | exact trivial | exact ⟨rfl, rfl⟩ | exact ⟨rfl, strs_scal _⟩ | exact ⟨trivial, trivial⟩ | assumption | decide | exact Nat.le_of_ble_eq_true rfl | omega) ?_) | ((conv => whnf); first | rw [h3]))); try (conv => whnf))
            refine ⟨y, rfl, oy.1, fun _ => rfl, ?_⟩
            cases q2 : isCountD y with
            | true =>
              obtain ⟨k, rfl, _, e6⟩ := cnt_true q2
              rw [show two2 opF [.str m, .int k] = some (.op m k) by show opF _ _ = _; unfold opF; rw [e5, e6]] at hk
              ((repeat ((conv => whnf); refine And.intro (by first | exact rfl | exact trivial | exact ⟨rfl, rfl⟩ | exact ⟨rfl, strs_scal _⟩ | exact ⟨trivial, trivial⟩ | assumption | decide | exact Nat.le_of_ble_eq_true rfl | omega) ?_)); try (conv => whnf)); exact hk
            | false =>
              rw [show two2 opF [.str m, y] = none by show opF _ _ = _; unfold opF; rw [e5, cnt_false q2]] at hk
              ((repeat ((conv => whnf); refine And.intro (by first | exact rfl | exact trivial | exact ⟨rfl, rfl⟩ | exact ⟨rfl, strs_scal _⟩ | exact ⟨trivial, trivial⟩ | assumption | decide | exact Nat.le_of_ble_eq_true rfl | omega) ?_)); try (conv => whnf)); exact hk
          | false =>
            rw [show two2 opF [x, y] = none by show opF _ _ = _; unfold opF; rw [mk_false q]] at hk
            ((repeat ((conv => whnf); refine And.intro (by first | exact rfl | exact trivial | exact ⟨rfl, rfl⟩ | exact ⟨rfl, strs_scal _⟩ | exact ⟨trivial, trivial⟩ | assumption | decide | exact Nat.le_of_ble_eq_true rfl | omega) ?_)); try (conv => whnf)); exact hk
        · simp at e2
          omega
end
theorem p_deedG {Γ : Env} (h1 : Γ.fn "is_list" = some (.pl conIsList true [])) (h2 : Γ.fn "is_mark" = some (.pl conIsMark true [])) (h3 : Γ.fn "is_count" = some (.pl conIsCount true [])) : Impl Γ 2 conDeedG c_deed_of := by
  intro as c K h
  obtain ⟨x, rfl, ok, hk⟩ := h
  cases x with
  | obj c fs => exact Bool.noConfusion ok.ty
  | dctT kvs => exact Bool.noConfusion ok.ty
  | kt xs => exact absurd rfl (ok.kt xs)
  | lst xs =>
    have it := ok.it xs (.inl rfl)
    rcases xs with _ | ⟨a, r⟩
    · ((repeat (first | ((conv => whnf); refine And.intro (by first | exact rfl | exact trivial | exact ⟨rfl, rfl⟩ | exact ⟨rfl, strs_scal _⟩ | exact ⟨trivial, trivial⟩ | assumption | decide | exact Nat.le_of_ble_eq_true rfl | omega) ?_) | ((conv => whnf); first | rw [h1]))); try (conv => whnf))
      refine ⟨_, rfl, rfl, fun _ => rfl, ?_⟩
      ((repeat ((conv => whnf); refine And.intro (by first | exact rfl | exact trivial | exact ⟨rfl, rfl⟩ | exact ⟨rfl, strs_scal _⟩ | exact ⟨trivial, trivial⟩ | assumption | decide | exact Nat.le_of_ble_eq_true rfl | omega) ?_)); try (conv => whnf))
      exact hk
    · have ha := it a (by simp)
      have hr : ∀ y ∈ r, OkIt y := fun y hy => it y (by simp [hy])
      ((repeat (first | ((conv => whnf); refine And.intro (by first | exact rfl | exact trivial | exact ⟨rfl, rfl⟩ | exact ⟨rfl, strs_scal _⟩ | exact ⟨trivial, trivial⟩ | assumption | decide | exact Nat.le_of_ble_eq_true rfl | omega) ?_) | ((conv => whnf); first | rw [h1]))); try (conv => whnf))
      refine ⟨_, rfl, rfl, fun _ => rfl, ?_⟩
      ((repeat ((conv => whnf); refine And.intro (by first | exact rfl | exact trivial | exact ⟨rfl, rfl⟩ | exact ⟨rfl, strs_scal _⟩ | exact ⟨trivial, trivial⟩ | assumption | decide | exact Nat.le_of_ble_eq_true rfl | omega) ?_)); try (conv => whnf))
      have a0 : atI (a :: r) 0 = some a := atI_nat (xs := a :: r) (j := 0) rfl
      rw [a0]
      (conv => whnf)
      · cases a with
        | str w =>
          refine And.intro ⟨rfl, rfl⟩ ?_
          (conv => whnf)
          refine And.intro trivial ?_
          (conv => whnf)
          rw [a0]
          (conv => whnf)
          refine And.intro rfl ?_
          exact deed_tail h2 h3 (.inl rfl) hr hk
        | obj c fs => exact Bool.noConfusion ha.1
        | dctT kvs => exact Bool.noConfusion ha.1
        | _ => refine And.intro ⟨rfl, rfl⟩ ?_; ((repeat ((conv => whnf); refine And.intro (by first | exact rfl | exact trivial | exact ⟨rfl, rfl⟩ | exact ⟨rfl, strs_scal _⟩ | exact ⟨trivial, trivial⟩ | assumption | decide | exact Nat.le_of_ble_eq_true rfl | omega) ?_)); try (conv => whnf)); exact hk
  | tup xs =>
    have it := ok.it xs (.inr rfl)
    rcases xs with _ | ⟨a, r⟩
    · ((repeat (first | ((conv => whnf); refine And.intro (by first | exact rfl | exact trivial | exact ⟨rfl, rfl⟩ | exact ⟨rfl, strs_scal _⟩ | exact ⟨trivial, trivial⟩ | assumption | decide | exact Nat.le_of_ble_eq_true rfl | omega) ?_) | ((conv => whnf); first | rw [h1]))); try (conv => whnf))
      refine ⟨_, rfl, rfl, fun _ => rfl, ?_⟩
      ((repeat ((conv => whnf); refine And.intro (by first | exact rfl | exact trivial | exact ⟨rfl, rfl⟩ | exact ⟨rfl, strs_scal _⟩ | exact ⟨trivial, trivial⟩ | assumption | decide | exact Nat.le_of_ble_eq_true rfl | omega) ?_)); try (conv => whnf))
      exact hk
    · have ha := it a (by simp)
      have hr : ∀ y ∈ r, OkIt y := fun y hy => it y (by simp [hy])
      ((repeat (first | ((conv => whnf); refine And.intro (by first | exact rfl | exact trivial | exact ⟨rfl, rfl⟩ | exact ⟨rfl, strs_scal _⟩ | exact ⟨trivial, trivial⟩ | assumption | decide | exact Nat.le_of_ble_eq_true rfl | omega) ?_) | ((conv => whnf); first | rw [h1]))); try (conv => whnf))
      refine ⟨_, rfl, rfl, fun _ => rfl, ?_⟩
      ((repeat ((conv => whnf); refine And.intro (by first | exact rfl | exact trivial | exact ⟨rfl, rfl⟩ | exact ⟨rfl, strs_scal _⟩ | exact ⟨trivial, trivial⟩ | assumption | decide | exact Nat.le_of_ble_eq_true rfl | omega) ?_)); try (conv => whnf))
      have a0 : atI (a :: r) 0 = some a := atI_nat (xs := a :: r) (j := 0) rfl
      rw [a0]
      (conv => whnf)
      · cases a with
        | str w =>
          refine And.intro ⟨rfl, rfl⟩ ?_
          (conv => whnf)
          refine And.intro trivial ?_
          (conv => whnf)
          rw [a0]
          (conv => whnf)
          refine And.intro rfl ?_
          exact deed_tail h2 h3 (.inr rfl) hr hk
        | obj c fs => exact Bool.noConfusion ha.1
        | dctT kvs => exact Bool.noConfusion ha.1
        | _ => refine And.intro ⟨rfl, rfl⟩ ?_; ((repeat ((conv => whnf); refine And.intro (by first | exact rfl | exact trivial | exact ⟨rfl, rfl⟩ | exact ⟨rfl, strs_scal _⟩ | exact ⟨trivial, trivial⟩ | assumption | decide | exact Nat.le_of_ble_eq_true rfl | omega) ?_)); try (conv => whnf)); exact hk
  | _ =>
    ((repeat (first | ((conv => whnf); refine And.intro (by first | exact rfl | exact trivial | exact ⟨rfl, rfl⟩ | exact ⟨rfl, strs_scal _⟩ | exact ⟨trivial, trivial⟩ | assumption | decide | exact Nat.le_of_ble_eq_true rfl | omega) ?_) | ((conv => whnf); first | rw [h1]))); try (conv => whnf))
    refine ⟨_, rfl, rfl, fun _ => rfl, ?_⟩
    ((repeat ((conv => whnf); refine And.intro (by first | exact rfl | exact trivial | exact ⟨rfl, rfl⟩ | exact ⟨rfl, strs_scal _⟩ | exact ⟨trivial, trivial⟩ | assumption | decide | exact Nat.le_of_ble_eq_true rfl | omega) ?_)); try (conv => whnf))
    exact hk
end PP
set_option Elab.async false
set_option linter.all false
set_option maxRecDepth 100000
set_option maxHeartbeats 4000000
namespace PP
open PySem L2
theorem deedP_d {d : Deed} (h : okD d) : deedP d.d = some d := by
  cases d with
  | op m n =>
    show deedW "open" [.str m, .int n] = _
    have e1 : mkOf (.str m) = some m := if_pos (isMark_ok h.1)
    have e2 : cntOf (.int n) = some n := if_pos h.2
    show (match mkOf (.str m), cntOf (.int n) with
      | some m, some n => some (Deed.op m n)
      | _, _ => none) = _
    rw [e1, e2]
  | days n =>
    show (cntOf (.int n)).map Deed.days = _
    rw [show cntOf (.int n) = some n from if_pos h]; rfl
  | pause n =>
    show (cntOf (.int n)).map Deed.pause = _
    rw [show cntOf (.int n) = some n from if_pos h]; rfl
  | back m =>
    show (mkOf (.str m)).map Deed.back = _
    rw [show mkOf (.str m) = some m from if_pos (isMark_ok h)]; rfl
theorem okDeed_d {d : Deed} (h : okD d) : OkDeed d.d := by
  have wl : ∀ x : Str, x = "open" ∨ x = "days" ∨ x = "pause" ∨ x = "back" → x.length ≤ sizeLine := fun x hx => by rcases hx with rfl | rfl | rfl | rfl <;> decide
  have is : ∀ {x : Str}, x.length ≤ sizeLine → OkIt (.str x) := fun q => ⟨rfl, fun m e => by cases e; exact q⟩
  have ii : ∀ {n : Int}, OkIt (.int n) := ⟨rfl, fun m e => by cases e⟩
  cases d with
  | op m n =>
    refine ⟨rfl, fun xs e => (by cases e), fun xs e y hy => ?_⟩
    rcases e with e | e <;> cases e
    simp only [List.mem_cons, List.mem_nil_iff, or_false] at hy
    rcases hy with rfl | rfl | rfl
    · exact is (wl _ (.inl rfl))
    · exact is (mark_size h.1)
    · exact ii
  | days n =>
    refine ⟨rfl, fun xs e => (by cases e), fun xs e y hy => ?_⟩
    rcases e with e | e <;> cases e
    simp only [List.mem_cons, List.mem_nil_iff, or_false] at hy
    rcases hy with rfl | rfl
    · exact is (wl _ (.inr (.inl rfl)))
    · exact ii
  | pause n =>
    refine ⟨rfl, fun xs e => (by cases e), fun xs e y hy => ?_⟩
    rcases e with e | e <;> cases e
    simp only [List.mem_cons, List.mem_nil_iff, or_false] at hy
    rcases hy with rfl | rfl
    · exact is (wl _ (.inr (.inr (.inl rfl))))
    · exact ii
  | back m =>
    refine ⟨rfl, fun xs e => (by cases e), fun xs e y hy => ?_⟩
    rcases e with e | e <;> cases e
    simp only [List.mem_cons, List.mem_nil_iff, or_false] at hy
    rcases hy with rfl | rfl
    · exact is (wl _ (.inr (.inr (.inr rfl))))
    · exact is (mark_size h)
end PP
set_option Elab.async false
set_option linter.all false
set_option maxRecDepth 100000
set_option maxHeartbeats 2000000
set_option Elab.async false
set_option linter.all false
set_option maxRecDepth 100000
set_option maxHeartbeats 4000000
set_option Elab.async false
set_option linter.all false
set_option maxRecDepth 100000
set_option maxHeartbeats 4000000
namespace PP
open PySem L2
theorem vd_snocF : ∀ {r : List Deed} {op : List Str} {a : Ac} {d : Deed}, vd op a r → newOp (op ++ r.flatMap opens) d → (a.run r).ok d → vd op a (r ++ [d])
  | [], op, a, d, _, hn, ho => ⟨by rw [List.flatMap_nil, List.append_nil] at hn; exact hn, ho, trivial⟩
  | x :: r, op, a, d, h, hn, ho => ⟨h.1, h.2.1, vd_snocF h.2.2 (by rw [List.flatMap_cons, ← List.append_assoc] at hn; exact hn) ho⟩
/-- what can stand behind a row -/
def canR (row : List Deed) : Deed → Prop
  | .op m _ => m ∉ row.flatMap opens
  | .back m => m ∈ marksOf row
  | _ => True
theorem open_mark {row : List Deed} (hv : ValidRow row) {m : Str} (h : m ∈ marksOf row) : m ∈ row.flatMap opens := by
  rw [(count_marks row hv.vd).1, List.mem_filter] at h
  exact h.1
theorem valid_snoc {row : List Deed} (hv : ValidRow row) {d : Deed} (hd : okD d) (hc : canR row d) (hl : row.length + 1 ≤ 100000) : ValidRow (row ++ [d]) := by
  refine ⟨fun e he => ?_, by rw [List.length_append, List.length_singleton]; exact hl, vd_snocF hv.vd ?_ ?_⟩
  · rcases List.mem_append.mp he with he | he
    · exact hv.ok e he
    · rw [List.mem_singleton.mp he]; exact hd
  · cases d with
    | op m n => exact hc
    | _ => trivial
  · cases d with
    | op m n => exact fun h => hc (open_mark hv h)
    | back m => exact hc
    | _ => trivial
theorem marks_snoc {row : List Deed} (hv : ValidRow row) (d : Deed) : marksOf (row ++ [d]) = match d with
    | .op m _ => marksOf row ++ [m]
    | .back m => wo (marksOf row) m
    | _ => marksOf row := by
  unfold marksOf
  rw [zs_behind hv]
  cases d with
  | op m n => simp [Ac.step]
  | back m => simp only [Ac.step]; unfold wo; rw [List.filter_map]; rfl
  | _ => rfl
end PP
set_option Elab.async false
set_option linter.all false
set_option maxRecDepth 100000
set_option maxHeartbeats 4000000
namespace PP
open PySem L2
def c_checked_rowX : List Sx := [(.ite (.not (.call "is_list" [(.var 0)] 0)) [(.raise "BadDeed" ["index"] [(.int 0)])] []), (.par [1, 2, 3] [(.lst []), (.lst []), (.lst [])]), (.for_ (.tup [(.one 4), (.one 5)]) (.bi .enum [(.var 0)]) [(.asgF 6 (.call "deed_of" [(.var 5)] 0)), (.ite (.cmp .isn (.var 6) .non) [(.raise "BadDeed" ["index"] [(.var 4)])] []), (.ite (.cmp .eq (.idx (.var 6) (.int 0)) (.str "open")) [(.ite (.cmp .isin (.idx (.var 6) (.int 1)) (.var 2)) [(.raise "BadDeed" ["index"] [(.var 4)])] []), (.app 2 (.idx (.var 6) (.int 1))), (.app 3 (.idx (.var 6) (.int 1)))] []), (.ite (.cmp .eq (.idx (.var 6) (.int 0)) (.str "back")) [(.ite (.cmp .notin (.idx (.var 6) (.int 1)) (.var 3)) [(.raise "BadDeed" ["index"] [(.var 4)])] []), (.rem 3 (.idx (.var 6) (.int 1)))] []), (.app 1 (.var 6))]), (.ret (.var 1))]
def N_checked_rowX : List Str := ["row", "found", "opened", "counting", "index", "thing", "deed"]
def chkD (op cn : List Str) (k : Nat) (d : Deed) (next : List Str → List Str → Option Nat) : Option Nat := match d with
  | .op m _ => if m ∈ op then some k else next (op ++ [m]) (cn ++ [m])
  | .back m => if m ∈ cn then next op (cn.erase m) else some k
  | _ => next op cn
def chk : List Str → List Str → Nat → List D → Option Nat
  | _, _, _, [] => none
  | op, cn, k, x :: r => match deedP x with
    | none => some k
    | some d => chkD op cn k d fun op' cn' => chk op' cn' (k + 1) r
def rowOf (xs : List D) : List Deed := xs.filterMap deedP
def LstIs (d : D) (xs : List D) : Prop := d = .lst xs ∨ d = .tup xs ∨ d = .kt xs
def bdX (i : Nat) : Xn := ("BadDeed", [("index", .int (i : Int))])
def conCheckedX : Con := fun as c K e => ∃ d, as = [some d] ∧ ((isListD d = false ∧ bltTy (tyD d) = true ∧ e (bdX 0) c) ∨ ∃ xs, LstIs d xs ∧ (∀ x ∈ xs, OkDeed x) ∧ xs.length ≤ 100000 ∧ (chk [] [] 0 xs = none → K (.fz (.lst ((rowOf xs).map Deed.d))) c) ∧ ∀ i, chk [] [] 0 xs = some i → e (bdX i) c)
def bX_row : List Sx := [(.asgF 6 (.call "deed_of" [(.var 5)] 0)), (.ite (.cmp .isn (.var 6) .non) [(.raise "BadDeed" ["index"] [(.var 4)])] []), (.ite (.cmp .eq (.idx (.var 6) (.int 0)) (.str "open")) [(.ite (.cmp .isin (.idx (.var 6) (.int 1)) (.var 2)) [(.raise "BadDeed" ["index"] [(.var 4)])] []), (.app 2 (.idx (.var 6) (.int 1))), (.app 3 (.idx (.var 6) (.int 1)))] []), (.ite (.cmp .eq (.idx (.var 6) (.int 0)) (.str "back")) [(.ite (.cmp .notin (.idx (.var 6) (.int 1)) (.var 3)) [(.raise "BadDeed" ["index"] [(.var 4)])] []), (.rem 3 (.idx (.var 6) (.int 1)))] []), (.app 1 (.var 6))]
theorem checked_go {Γ : Env} (h2 : Γ.fn "deed_of" = some (.pl conDeedG false [])) {rowD : D} {c : Stm} {n : En} {N : Nat} (hN : N ≤ 100000) : ∀ (xs2 : List D) (r1 : List Deed) (op cn : List Str) (k : Nat) (o4 o5 o6 : Option P), (∀ x ∈ xs2, OkDeed x) → isIo o4 = false → isIo o5 = false → isIo o6 = false → r1.length + xs2.length ≤ N → op.length + xs2.length ≤ N → cn.length + xs2.length ≤ N →
    (chk op cn k xs2 = none → ∀ op' cn' o4 o5 o6, n.nx ⟨[some (.fz rowD), some (.own ((r1 ++ rowOf xs2).map Deed.d)), op', cn', o4, o5, o6], c⟩) → (∀ i, chk op cn k xs2 = some i → ∀ s, S.c s = c → n.ex (bdX i) s) →
    forGo (.tup [.one 4, .one 5]) (exSs Γ bX_row) (enumD k xs2) n ⟨[some (.fz rowD), some (.own (r1.map Deed.d)), some (.own (op.map D.str)), some (.own (cn.map D.str)), o4, o5, o6], c⟩ := by
  have sb := sizeLine_big
  intro xs2
  induction xs2 with
  | nil =>
    intro r1 op cn k o4 o5 o6 ok i4 i5 i6 l1 l2 l3 hn hx
    have q := hn rfl (some (.own (op.map D.str))) (some (.own (cn.map D.str))) o4 o5 o6
    rw [show rowOf [] = [] from rfl, List.append_nil] at q
    exact q
  | cons x xs2 ih =>
    intro r1 op cn k o4 o5 o6 ok i4 i5 i6 l1 l2 l3 hn hx
    rw [List.length_cons] at l1 l2 l3
    have okx := ok x (by simp)
    refine And.intro i4 ?_
    (conv => whnf)
    refine And.intro i5 ?_
    ((repeat (first | ((conv => whnf); refine And.intro (by first | exact rfl | exact trivial | exact ⟨rfl, rfl⟩ | exact ⟨rfl, strs_scal _⟩ | exact ⟨trivial, trivial⟩ | assumption | decide | exact Nat.le_of_ble_eq_true rfl | omega) ?_) | ((conv => whnf); first | rw [h2]))); try (conv => whnf))
    refine ⟨x, rfl, okx, (fun e => (by cases e)), ?_⟩
    cases hd : deedP x with
    | none =>
      ((repeat ((conv => whnf); refine And.intro (by first | exact rfl | exact trivial | exact ⟨rfl, rfl⟩ | exact ⟨rfl, strs_scal _⟩ | exact ⟨trivial, trivial⟩ | assumption | decide | exact Nat.le_of_ble_eq_true rfl | omega) ?_)); try (conv => whnf))
      exact hx k (by unfold chk; rw [hd]) _ rfl
    | some d =>
      have hr : rowOf (x :: xs2) = d :: rowOf xs2 := List.filterMap_cons_some hd
      have hc : chk op cn k (x :: xs2) = chkD op cn k d fun op' cn' => chk op' cn' (k + 1) xs2 := by rw [chk, hd]
      rw [hr, hc] at hn
      rw [hc] at hx
      have go := fun op' cn' (a : op'.length ≤ op.length + 1) (b : cn'.length ≤ cn.length + 1) hn' hx' o4 o5 o6 (i4 : isIo o4 = false) (i5 : isIo o5 = false) (i6 : isIo o6 = false) => ih (r1 ++ [d]) op' cn' (k + 1) o4 o5 o6 (fun y hy => ok y (by simp [hy])) i4 i5 i6 (by rw [List.length_append, List.length_singleton]; omega) (by omega) (by omega) hn' hx'
      have go : ∀ op' cn', op'.length ≤ op.length + 1 → cn'.length ≤ cn.length + 1 → (chk op' cn' (k + 1) xs2 = none → ∀ op' cn' o4 o5 o6, n.nx ⟨[some (.fz rowD), some (.own ((r1 ++ d :: rowOf xs2).map Deed.d)), op', cn', o4, o5, o6], c⟩) → (∀ i, chk op' cn' (k + 1) xs2 = some i → ∀ s, S.c s = c → n.ex (bdX i) s) → ∀ o4 o5 o6, isIo o4 = false → isIo o5 = false → isIo o6 = false → forGo (.tup [.one 4, .one 5]) (exSs Γ bX_row) (enumD (k + 1) xs2) n ⟨[some (.fz rowD), some (.own (r1.map Deed.d ++ [d.d])), some (.own (op'.map D.str)), some (.own (cn'.map D.str)), o4, o5, o6], c⟩ := fun op' cn' a b hn' hx' o4 o5 o6 i4 i5 i6 => by
        have := go op' cn' a b (fun h => by rw [List.append_assoc]; exact hn' h) hx' o4 o5 o6 i4 i5 i6
        rw [List.map_append] at this
        exact this
      have e2 : ∀ l : List Deed, (r1 ++ [d] ++ rowOf xs2).map Deed.d = (r1 ++ d :: rowOf xs2).map Deed.d := fun _ => by rw [List.append_assoc]; rfl
      have lf : (r1.map Deed.d).length < sizeLine := by rw [List.length_map]; omega
      have lo : (op.map D.str).length < sizeLine := by rw [List.length_map]; omega
      have lc : (cn.map D.str).length < sizeLine := by rw [List.length_map]; omega
      rw [show optD (some d) = d.d from rfl]
      cases d with
      | op m a =>
        ((repeat ((conv => whnf); refine And.intro (by first | exact rfl | exact trivial | exact ⟨rfl, rfl⟩ | exact ⟨rfl, strs_scal _⟩ | exact ⟨trivial, trivial⟩ | assumption | decide | exact Nat.le_of_ble_eq_true rfl | omega) ?_)); try (conv => whnf))
        rw [show inD (R.fz (D.str m)).d (op.map D.str) = decide (m ∈ op) from inD_strs _ _]
        by_cases q : m ∈ op
        · rw [decide_eq_true q]
          ((repeat ((conv => whnf); refine And.intro (by first | exact rfl | exact trivial | exact ⟨rfl, rfl⟩ | exact ⟨rfl, strs_scal _⟩ | exact ⟨trivial, trivial⟩ | assumption | decide | exact Nat.le_of_ble_eq_true rfl | omega) ?_)); try (conv => whnf))
          exact hx k (if_pos q) _ rfl
        · rw [decide_eq_false q]
          ((repeat ((conv => whnf); refine And.intro (by first | exact rfl | exact trivial | exact ⟨rfl, rfl⟩ | exact ⟨rfl, strs_scal _⟩ | exact ⟨trivial, trivial⟩ | assumption | decide | exact Nat.le_of_ble_eq_true rfl | omega) ?_)); try (conv => whnf))
          have := go (op ++ [m]) (cn ++ [m]) (by simp) (by simp) (fun h => hn (by rw [show chkD op cn k (.op m a) (fun op' cn' => chk op' cn' (k + 1) xs2) = chk (op ++ [m]) (cn ++ [m]) (k + 1) xs2 from if_neg q]; exact h)) (fun i h => hx i (by rw [show chkD op cn k (.op m a) (fun op' cn' => chk op' cn' (k + 1) xs2) = chk (op ++ [m]) (cn ++ [m]) (k + 1) xs2 from if_neg q]; exact h)) (some (.fz (.int k))) (some (.fz x)) (some (.fz (Deed.op m a).d)) rfl rfl rfl
          rw [List.map_append, List.map_append] at this
          exact this
      | back m =>
        ((repeat ((conv => whnf); refine And.intro (by first | exact rfl | exact trivial | exact ⟨rfl, rfl⟩ | exact ⟨rfl, strs_scal _⟩ | exact ⟨trivial, trivial⟩ | assumption | decide | exact Nat.le_of_ble_eq_true rfl | omega) ?_)); try (conv => whnf))
        rw [show inD (R.fz (D.str m)).d (cn.map D.str) = decide (m ∈ cn) from inD_strs _ _]
        by_cases q : m ∈ cn
        · rw [decide_eq_true q]
          ((repeat ((conv => whnf); refine And.intro (by first | exact rfl | exact trivial | exact ⟨rfl, rfl⟩ | exact ⟨rfl, strs_scal _⟩ | exact ⟨trivial, trivial⟩ | assumption | decide | exact Nat.le_of_ble_eq_true rfl | omega) ?_)); try (conv => whnf))
          rw [asStrs_map]
          refine And.intro q ?_
          refine And.intro lf ?_
          exact go op (cn.erase m) (by omega) (Nat.le_succ_of_le List.erase_sublist.length_le) (fun h => hn (by rw [show chkD op cn k (.back m) (fun op' cn' => chk op' cn' (k + 1) xs2) = chk op (cn.erase m) (k + 1) xs2 from if_pos q]; exact h)) (fun i h => hx i (by rw [show chkD op cn k (.back m) (fun op' cn' => chk op' cn' (k + 1) xs2) = chk op (cn.erase m) (k + 1) xs2 from if_pos q]; exact h)) _ _ _ rfl rfl rfl
        · rw [decide_eq_false q]
          ((repeat ((conv => whnf); refine And.intro (by first | exact rfl | exact trivial | exact ⟨rfl, rfl⟩ | exact ⟨rfl, strs_scal _⟩ | exact ⟨trivial, trivial⟩ | assumption | decide | exact Nat.le_of_ble_eq_true rfl | omega) ?_)); try (conv => whnf))
          exact hx k (if_neg q) _ rfl
      | days a =>
        ((repeat ((conv => whnf); refine And.intro (by first | exact rfl | exact trivial | exact ⟨rfl, rfl⟩ | exact ⟨rfl, strs_scal _⟩ | exact ⟨trivial, trivial⟩ | assumption | decide | exact Nat.le_of_ble_eq_true rfl | omega) ?_)); try (conv => whnf))
        exact go op cn (by omega) (by omega) (fun h => hn h) (fun i h => hx i h) _ _ _ rfl rfl rfl
      | pause a =>
        ((repeat ((conv => whnf); refine And.intro (by first | exact rfl | exact trivial | exact ⟨rfl, rfl⟩ | exact ⟨rfl, strs_scal _⟩ | exact ⟨trivial, trivial⟩ | assumption | decide | exact Nat.le_of_ble_eq_true rfl | omega) ?_)); try (conv => whnf))
        exact go op cn (by omega) (by omega) (fun h => hn h) (fun i h => hx i h) _ _ _ rfl rfl rfl
theorem p_checked_rowX {Γ : Env} (h1 : Γ.fn "is_list" = some (.pl conIsList true [])) (h2 : Γ.fn "deed_of" = some (.pl conDeedG false [])) : ImplX Γ 7 conCheckedX c_checked_rowX := by
  intro as c K e h
  obtain ⟨d, rfl, h⟩ := h
  rcases h with ⟨hl, ht, he⟩ | ⟨xs, hd, ok, hz, hk, he⟩
  · ((repeat (first | ((conv => whnf); refine And.intro (by first | exact rfl | exact trivial | exact ⟨rfl, rfl⟩ | exact ⟨rfl, strs_scal _⟩ | exact ⟨trivial, trivial⟩ | assumption | decide | exact Nat.le_of_ble_eq_true rfl | omega) ?_) | ((conv => whnf); first | rw [h1]))); try (conv => whnf))
    refine ⟨d, rfl, ht, fun _ => rfl, ?_⟩
    rw [hl]
    ((repeat ((conv => whnf); refine And.intro (by first | exact rfl | exact trivial | exact ⟨rfl, rfl⟩ | exact ⟨rfl, strs_scal _⟩ | exact ⟨trivial, trivial⟩ | assumption | decide | exact Nat.le_of_ble_eq_true rfl | omega) ?_)); try (conv => whnf))
    exact he
  · have ht : bltTy (tyD d) = true ∧ isListD d = true := by rcases hd with rfl | rfl | rfl <;> exact ⟨rfl, rfl⟩
    ((repeat (first | ((conv => whnf); refine And.intro (by first | exact rfl | exact trivial | exact ⟨rfl, rfl⟩ | exact ⟨rfl, strs_scal _⟩ | exact ⟨trivial, trivial⟩ | assumption | decide | exact Nat.le_of_ble_eq_true rfl | omega) ?_) | ((conv => whnf); first | rw [h1]))); try (conv => whnf))
    refine ⟨d, rfl, ht.1, fun _ => rfl, ?_⟩
    rw [ht.2]
    ((repeat ((conv => whnf); refine And.intro (by first | exact rfl | exact trivial | exact ⟨rfl, rfl⟩ | exact ⟨rfl, strs_scal _⟩ | exact ⟨trivial, trivial⟩ | assumption | decide | exact Nat.le_of_ble_eq_true rfl | omega) ?_)); try (conv => whnf))
    have z : ∀ (c' : Stm), c' = c → True := fun _ _ => trivial
    rcases hd with rfl | rfl | rfl
    all_goals
      refine checked_go h2 (Nat.le_refl 100000) xs [] [] [] 0 none none none ok rfl rfl rfl (by simpa using hz) (by simpa using hz) (by simpa using hz) (fun h op' cn' o4 o5 o6 => ?_) (fun i h s hs => ?_)
      · rw [List.nil_append]
        exact hk h
      · have hs : s.c = c := hs
        show e (bdX i) s.c
        rw [hs]
        exact he i h
theorem isMark_of {k : Str} (h : isMarkD (.str k) = true) : MarkOk k := by
  have h : (decide (1 ≤ k.length) && (decide (k.length ≤ 8) && k.cps.toList.all inLet)) = true := h
  rw [Bool.and_eq_true, Bool.and_eq_true, decide_eq_true_eq, decide_eq_true_eq, List.all_eq_true] at h
  exact ⟨h.1, h.2.1, fun c hc => of_decide_eq_true (h.2.2 c hc)⟩
theorem deedP_ok {x : D} {d : Deed} (h : deedP x = some d) : okD d ∧ DeedIs x d := by
  have key : ∀ (mk : List D → D) (xs : List D), deedL xs = some d → okD d ∧ xs = d.ds := fun mk xs h => by
    cases xs with
    | nil => cases h
    | cons w r =>
      cases w with
      | str w =>
        have h : deedW w r = some d := h
        unfold deedW at h
        have cnt : ∀ {y : D} {n : Int}, cntOf y = some n → y = .int n ∧ 0 < n := fun {y n} q => by
          cases y with
          | int k =>
            have q : (if 0 < k then some k else none) = some n := q
            by_cases p : 0 < k
            · rw [if_pos p] at q; cases q; exact ⟨rfl, p⟩
            · rw [if_neg p] at q; cases q
          | _ => cases q
        have mrk : ∀ {y : D} {m : Str}, mkOf y = some m → y = .str m ∧ MarkOk m := fun {y m} q => by
          cases y with
          | str k =>
            have q : (if isMarkD (.str k) = true then some k else none) = some m := q
            by_cases p : isMarkD (.str k) = true
            · rw [if_pos p] at q; cases q; exact ⟨rfl, isMark_of p⟩
            · rw [if_neg p] at q; cases q
          | _ => cases q
        by_cases e1 : w = ("open" : Str)
        · rw [if_pos e1] at h
          match r, h with
          | [x, y], h =>
            have h : (match mkOf x, cntOf y with
              | some m, some n => some (Deed.op m n)
              | _, _ => none) = some d := h
            cases q1 : mkOf x with
            | none => rw [q1] at h; cases h
            | some m =>
              cases q2 : cntOf y with
              | none => rw [q1, q2] at h; cases h
              | some n =>
                rw [q1, q2] at h
                cases h
                obtain ⟨rfl, a⟩ := mrk q1
                obtain ⟨rfl, b⟩ := cnt q2
                exact ⟨⟨a, b⟩, by rw [e1]; rfl⟩
        · rw [if_neg e1] at h
          by_cases e2 : w = ("days" : Str)
          · rw [if_pos e2] at h
            match r, h with
            | [x], h =>
              have h : (cntOf x).map Deed.days = some d := h
              cases q : cntOf x with
              | none => rw [q] at h; cases h
              | some n => rw [q] at h; cases h; obtain ⟨rfl, b⟩ := cnt q; exact ⟨b, by rw [e2]; rfl⟩
          · rw [if_neg e2] at h
            by_cases e3 : w = ("pause" : Str)
            · rw [if_pos e3] at h
              match r, h with
              | [x], h =>
                have h : (cntOf x).map Deed.pause = some d := h
                cases q : cntOf x with
                | none => rw [q] at h; cases h
                | some n => rw [q] at h; cases h; obtain ⟨rfl, b⟩ := cnt q; exact ⟨b, by rw [e3]; rfl⟩
            · rw [if_neg e3] at h
              by_cases e4 : w = ("back" : Str)
              · rw [if_pos e4] at h
                match r, h with
                | [x], h =>
                  have h : (mkOf x).map Deed.back = some d := h
                  cases q : mkOf x with
                  | none => rw [q] at h; cases h
                  | some n => rw [q] at h; cases h; obtain ⟨rfl, b⟩ := mrk q; exact ⟨b, by rw [e4]; rfl⟩
              · rw [if_neg e4] at h; cases h
      | _ => cases h
  cases x with
  | lst xs => obtain ⟨a, b⟩ := key D.lst xs h; exact ⟨a, .inr (by rw [b])⟩
  | tup xs => obtain ⟨a, b⟩ := key D.tup xs h; exact ⟨a, .inl (by rw [b])⟩
  | _ => cases h
theorem chk_valid : ∀ (xs : List D) (r1 : List Deed) (k : Nat), ValidRow r1 → r1.length + xs.length ≤ 100000 → chk (r1.flatMap opens) (marksOf r1) k xs = none → ValidRow (r1 ++ rowOf xs) ∧ DsAre xs (rowOf xs)
  | [], r1, k, hv, _, _ => ⟨by rw [show rowOf [] = [] from rfl, List.append_nil]; exact hv, .nil⟩
  | x :: xs, r1, k, hv, hl, h => by
    rw [List.length_cons] at hl
    cases hd : deedP x with
    | none => unfold chk at h; rw [hd] at h; cases h
    | some d =>
      obtain ⟨ok, is⟩ := deedP_ok hd
      have hr : rowOf (x :: xs) = d :: rowOf xs := List.filterMap_cons_some hd
      have hc : chkD (r1.flatMap opens) (marksOf r1) k d (fun op' cn' => chk op' cn' (k + 1) xs) = none := by rw [chk, hd] at h; exact h
      have step : canR r1 d → chk ((r1 ++ [d]).flatMap opens) (marksOf (r1 ++ [d])) (k + 1) xs = none → ValidRow (r1 ++ rowOf (x :: xs)) ∧ DsAre (x :: xs) (rowOf (x :: xs)) := fun c q => by
        obtain ⟨a, b⟩ := chk_valid xs (r1 ++ [d]) (k + 1) (valid_snoc hv ok c (by omega)) (by rw [List.length_append, List.length_singleton]; omega) q
        rw [hr]
        rw [List.append_assoc] at a
        exact ⟨a, .cons is b⟩
      have em := marks_snoc hv d
      cases d with
      | op m n =>
        by_cases q : m ∈ r1.flatMap opens
        · rw [show chkD _ _ k (.op m n) _ = some k from if_pos q] at hc; cases hc
        · have hc : chk (r1.flatMap opens ++ [m]) (marksOf r1 ++ [m]) (k + 1) xs = none := by rw [← hc]; exact (if_neg q).symm
          refine step q ?_
          rw [em, List.flatMap_append]
          exact hc
      | back m =>
        by_cases q : m ∈ marksOf r1
        · have hc : chk (r1.flatMap opens) ((marksOf r1).erase m) (k + 1) xs = none := by rw [← hc]; exact (if_pos q).symm
          refine step q ?_
          have ew : (marksOf r1).erase m = wo (marksOf r1) m := by
            have nd : (marksOf r1).Nodup := hv.good.nodup
            rw [nd.erase_eq_filter]
            unfold wo
            exact List.filter_congr fun y _ => by by_cases e : y = m <;> simp [e]
          rw [em, List.flatMap_append]
          show chk (r1.flatMap opens ++ []) (wo (marksOf r1) m) _ _ = none
          rw [List.append_nil, ← ew]
          exact hc
        · rw [show chkD _ _ k (.back m) _ = some k from if_neg q] at hc; cases hc
      | days n =>
        refine step trivial ?_
        rw [em, List.flatMap_append]
        show chk (r1.flatMap opens ++ []) _ _ _ = none
        rw [List.append_nil]
        exact hc
      | pause n =>
        refine step trivial ?_
        rw [em, List.flatMap_append]
        show chk (r1.flatMap opens ++ []) _ _ _ = none
        rw [List.append_nil]
        exact hc
theorem chk_ok {xs : List D} (hl : xs.length ≤ 100000) (h : chk [] [] 0 xs = none) : ValidRow (rowOf xs) ∧ DsAre xs (rowOf xs) := by
  have v0 : ValidRow [] := ⟨fun d hd => (by cases hd), Nat.zero_le _, trivial⟩
  have := chk_valid xs [] 0 v0 (by simpa using hl) h
  rwa [List.nil_append] at this
end PP
set_option Elab.async false
set_option linter.all false
set_option maxRecDepth 100000
set_option maxHeartbeats 2000000
set_option Elab.async false
set_option linter.all false
set_option maxRecDepth 100000
set_option maxHeartbeats 2000000
set_option Elab.async false
set_option linter.all false
set_option maxRecDepth 100000
set_option maxHeartbeats 4000000
namespace PP
open PySem PySem.Spec PyProof.Rows L2
def opLen : List D → M R
  | [.int n] => need (0 ≤ n ∧ n < 2 ^ 62) (rd (.int n))
  | _ => fail
def rLenO (C : Addr) (sp : Sp) (E : XK) : V → Hp → (Int → Hp → Prop) → Prop := fun x H Q => ∃ a dx fs, x = .ref a ∧ H a = some (.ins C dx fs) ∧ sp [.ref a] H (fun v H' => ∃ n : Int, v = .int n ∧ (0 ≤ n ∧ n < 2 ^ 62) ∧ Q n H') E
section
variable {X : Cx} {CX : CXT} {k : Nat} {C f : Addr} {fd : FuncData} {ps : List Str} {sp : Sp} {E : XK}
theorem len_own {A : Around} {pins : List (Addr × Obj)} {s : Shared} {σ : L2.St} {H : Hp} {x : V} {v : Value} {Q : VK} (F : FnOg X.prog X.w X.K X.mg X.base CX k f fd ps sp) (hm : Meth X.K C "__len__" f) (hb : Binds X.K fd ps []) (hx : Passes CX X E) (sb : SubG X (k + 1) A)
    (I : Inv X pins σ H s) (rx : RelV x v) (h : rLenO C sp E x H fun n H' => Q (.int n) H') : wpAny (model X.prog X.w) A (call (.builtin "len") [v]) (EP X pins σ Q) X.xe s := by
  obtain ⟨a, dx, fs, rfl, ha, hsp⟩ := h
  cases rx
  obtain ⟨mA, J, _⟩ := ins_get I.hok ha
  obtain ⟨od, J, _⟩ := J.look
  obtain ⟨m, hF⟩ := I.fr
  have hfn : X.K.In s.heap := I.ok.mod.kin.keeps hF.keep
  refine Calls.call_function_entry kind_len plain_len entry_len (args_len1 _) ?_
  unfold Builtin.«len»
  refine wpAny_bind (m := oneArg "len" _) (wpAny_pure ?_)
  refine wpAny_bind (m := callSpecial? (.ref a) (PySem.Str.ofString "__len__")) (PySem.W.special_fn hfn J hm.at_ (beq_iff_eq.mp hm.fn) (thn (run_below F sb.in1 hb hx I (show Vals [V.ref a] [Value.ref a] from .cons rfl .nil) hsp) fun w s' ⟨z, H', I', rz, n, ez, hn, q⟩ => ?_))
  subst ez
  obtain ⟨t, rfl⟩ := rz
  refine wpAny_bind (wpAny_holding (wpAny_pure ?_))
  refine wpAny_bind (wpAny_letGo ?_)
  show wpAny _ _ (if n < 0 then _ else _) _ _ _
  rw [if_neg (by omega)]
  show wpAny _ _ (if n ≥ 2 ^ 63 then _ else _) _ _ _
  rw [if_neg (by omega)]
  exact wpAny_bind (wpAny_mkInt (wpAny_pure ⟨_, rfl, .int n, H', I'.tok _, ⟨_, rfl⟩, q⟩))
end
section
variable {X : Cx} {F : Fm} {E : XC} {Γ : Env} {a : Expr} {ia : Ex} {pos : Pos}
theorem lenO_sp (hT : F.T.tb = F.G.tb) {c : Str} {con : Con} {dfl : List D} {np : Nat} {σ : L2.St} {H : Hp} {Q : VK} (hΓ : Γ.mth c "__len__" = some (.pl con false dfl)) (hn : ∀ as c K e, con as c K e → as.length = np)
    (h : LR F noX (evP Γ (.opx opLen [.mth c ia "__len__" [] 0])).r σ H Q) : LR F noX (evP Γ ia).r σ H fun x H1 => rLenO (F.G.ga c) (liftSp F.G np con) E0 x H1 fun n H2 => Q (.int n) H2 := by
  obtain ⟨Z, ow, s, K, R, hf, hq⟩ := h
  have hf : (evP Γ ia).r s (fun r s1 => callM Γ c "__len__" (ret []) (ret []) 0 r.d s1 (fun r2 s2 => opLen [r2.d] s2 K noX) noX) noX := hf
  refine ⟨Z, ow, s, _, R, hf, fun r s1 v1 H1 ow1 k1 rr e1 => ?_⟩
  obtain ⟨R1, z⟩ := rr.fz' R
  cases hd : r.d with
  | obj c' ds =>
    rw [hd] at k1 z
    obtain ⟨⟨rfl, hfld⟩, k1⟩ := (show (c' = c ∧ fld ds "__len__" = none) ∧ _ from k1)
    rw [hΓ] at k1
    obtain ⟨p, dx, fs, rfl, np', e, ek, l⟩ := fz_obj z
    refine ⟨p, dx, fs, rfl, e, ?_⟩
    have ed : dflTail dfl 0 = [] := by unfold dflTail; simp
    have k2 : con ([some (.obj c' ds)] ++ ([] ++ dflTail dfl 0)) s1.c (fun r c2 => (false = true → sclR r = true) ∧ opLen [r.d] { s1 with c := c2 } K noX) (fun xn c2 => (false = true → (xn.2.all fun f => isScalar f.2) = true) ∧ noX xn { s1 with c := c2 }) := k1
    rw [ed] at k2
    have k2 : con [some (.obj c' ds)] s1.c _ _ := k2
    refine ⟨hn _ _ _ _ k2 ▸ rfl, F.T, lentA Z ow1 [], _, s1.c, _, _, R1.strm, fun a z => ⟨.inl (R1.zs a z), fun ⟨i, hi, _⟩ => by cases hi⟩, hT, fun a z => R1.avT z.1, .d (z.mono fun a q => .inl q.1) .nil, k2, fun r c2 v H2 w kp st rr2 => ?_, fun xn c2 cls d H2 w _ _ _ => w.2.elim⟩
    obtain ⟨_, w⟩ := w
    cases r with
    | fz d =>
      cases d with
      | int n =>
        obtain ⟨hb, w⟩ := (show (0 ≤ n ∧ n < 2 ^ 62) ∧ _ from w)
        have z2 : Fz F.G (lentA Z ow1 []) H2 v (.int n) := rr2
        cases z2
        exact ⟨n, rfl, hb, hq (.fz (.int n)) _ _ H2 ow1 w ((rr_called (r := .fz (.int n)) R1 (lent0 _ _) kp st (.int n) (.inl rfl)).back e1.dm) (e1.trans (Eff.called R1 (lent0 _ _) kp st))⟩
      | _ => exact w.elim
    | nl _ => exact w.elim
    | nd _ => exact w.elim
  | _ => rw [hd] at k1; exact k1.elim
/-- len(x), x with an own __len__ -/
theorem sx_lenO (g : Gd X F noX) {k : Nat} {c : Str} {con : Con} {dfl : List D} {p : Pos} (hm : X.mg "len" = none) (e : MtE X.prog X.w X.K X.mg X.base F.G k c "__len__" con dfl 0) (hΓ : Γ.mth c "__len__" = some (.pl con false dfl)) (hr : RoomG (k + 1) X.A) (ha : SX X F noX Γ a ia)
    (hg : Gl X "len" := by rfl) (he : starEach [a] X.env = (false, eval a X.env) :: starEach [] X.env := by rfl) (hpl : (backTo pos (starEach [] X.env)).any (·.1) = false := by rfl) : SX X F noX Γ (.Call (.Name "len" p) [a] [] pos) (.opx opLen [.mth c ia "__len__" [] 0]) := by
  obtain ⟨f, fd, ps, dvs, ds, ok, hcl, hmt, hb, hd, hlen, hdf⟩ := e.ok
  have hdv : dvs = [] ∧ ds = [] := by
    have q := hdf ⟨0, 0, []⟩ (fun _ => False) (fun _ => none)
    unfold dflTail at q
    simp at q
    cases q
    exact ⟨rfl, by cases hd; rfl⟩
  obtain ⟨rfl, rfl⟩ := hdv
  refine ⟨fun pinz s σ H Q I h => ?_⟩
  refine wpAny_Call_Name_kw (ld_blt (u := .builtin "len") I hg hm PySem.boot_len ?_)
  refine PyProof.Rows.callWith_builtin1 ?_ he hpl
  rw [he]
  show wpAny _ _ (spliced ((false, eval a X.env) :: backTo pos (starEach [] X.env))) _ _ s
  refine Calls.spliced_cons (thn (ha.run pinz s σ H _ I (lenO_sp g.tb hΓ hlen h)) fun u s1 ⟨x, H1, I1, r1, q1⟩ => ?_)
  exact Calls.spliced_nil (len_own ok hmt hb passE0 ⟨hr, rfl⟩ I1 r1 q1)
end
end PP
set_option Elab.async false
set_option linter.all false
set_option maxRecDepth 100000
set_option maxHeartbeats 2000000
set_option Elab.async false
set_option linter.all false
set_option maxRecDepth 100000
set_option maxHeartbeats 2000000
set_option Elab.async false
set_option linter.all false
set_option maxRecDepth 100000
set_option maxHeartbeats 2000000
set_option Elab.async false
set_option linter.all false
set_option maxRecDepth 100000
set_option maxHeartbeats 2000000
namespace GQ
open PySem PySem.SeqAt
open AutoSeq1 (wpAny_loadPart')
open MeetsSeq MeetsSeq2 MeetsSeq3 SeqRoads2
section
variable {prog : Program} {w : World} {A : Around} {R : Result → Shared → Prop}
theorem list_szG (l b : Addr) (items items2 : Array Value) (n n2 : Nat) (hsz : items.size ≠ items2.size) {s : Shared} (fin : R (.ok (.ret (.bool false))) s) (hl1 : s.heap.get? l = some { cls := .type "list", data := .seq items n }) (hb1 : s.heap.get? b = some { cls := .type "list", data := .seq items2 n2 }) :
    wpAny (model prog w) A.in1 (Builtin.«list.__eq__» ⟨[.ref l, .ref b], []⟩) (FinOf prog w A R) (fun e s' => R (.error e) s') s := by
  obtain ⟨hp, g, d, tk, os⟩ := s
  have f3 := AutoSeq1.sub_list_list
  have hne : (items.size != items2.size) = true := by simp [hsz]
  wp_walk using wpAny_loadPart' hl1, wpAny_loadPart' hb1
  exact fin
end
section
variable {prog : Program} {w : World} {A : Around} {E : Value → Shared → Prop} {s : Shared}
theorem rc_listSz {l b : Addr} {items items2 : Array Value} {n n2 : Nat} {Q : Value → Shared → Prop} (hsz : items.size ≠ items2.size) (hu : A.units < cLine) (hl : s.heap.get? l = some { cls := .type "list", data := .seq items n }) (hb : s.heap.get? b = some { cls := .type "list", data := .seq items2 n2 })
    (fin : Q (.bool false) s) : wpAny (model prog w) A (richCompare .Eq (.ref l) (.ref b)) Q E s := by
  refine wpAny_richCompare_same_room (op := .Eq) ⟨_, hl, rfl⟩ ⟨_, hb, rfl⟩ PySem.F.slot_list_eq (call_here PySem.F.slot_list_eq ⟨_, hl, rfl⟩ PySem.F.entry_list_eq (PySem.F.args_list_eq_2 _ _) ?_) hu
  exact list_szG (R := wants (fun v s' => v ≠ .notImplemented ∧ Q v s') E) l b items items2 n n2 hsz ⟨(fun x => nomatch x), fin⟩ hl hb
end
end GQ
namespace PP
open PySem L2 PyProof.Rows PySem.Spec
def opEqNil : List D → M R
  | [.lst xs, .lst []] => rd (.bl xs.isEmpty)
  | _ => fail
def rEqNil : R2 := fun x y H Q => ∃ a b xs, x = .ref a ∧ y = .ref b ∧ H a = some (.lst xs) ∧ H b = some (.lst []) ∧ Q (.bl xs.isEmpty) H
theorem op_eqNil {X : Cx} (hu : X.A.units + 64 < cLine) : OpR X (compareOp .Eq) rEqNil := by
  intro pins s σ H x y v u Q I rx ry h
  obtain ⟨a, b, xs, rfl, rfl, ha, hb, q⟩ := h
  cases (show v = Value.ref a from rx)
  cases (show u = Value.ref b from ry)
  obtain ⟨us, r1, p1, _⟩ := I.list (SqL.of ha)
  obtain ⟨ws, r2, p2, _⟩ := I.list (SqL.of hb)
  cases r2
  cases xs with
  | nil =>
    cases r1
    refine SeqAt.rcP_lists (e := fun _ => true) p1.isList p2.isList rfl (by omega) (fun j h1 h2 => absurd h1 (Nat.not_lt_zero j)) _ _ ?_
    exact ⟨.bl true, H, I, rfl, q⟩
  | cons x xs =>
    cases r1 with
    | cons z r1 =>
      obtain ⟨z1, v1, n1, hl⟩ := show ObjOk X.prog X.w H s.heap a (.lst (x :: xs)) from I.hok a _ ha
      obtain ⟨z2, v2, n2, hl2⟩ := show ObjOk X.prog X.w H s.heap b (.lst []) from I.hok b _ hb
      obtain ⟨hv1, hl⟩ := hl
      obtain ⟨hv2, hl2⟩ := hl2
      cases hv2
      have ne : v1.toArray.size ≠ (#[] : Array Value).size := by
        have := hv1.length
        rw [List.length_cons] at this
        rw [List.size_toArray]
        show v1.length ≠ 0
        omega
      exact GQ.rc_listSz (A := X.A) ne (by omega) hl hl2 ⟨.bl false, H, I, rfl, q⟩
section
variable {X : Cx} {F : Fm} {E : XC} {Γ : Env} {a b : Expr} {ia ib : Ex} {pos : Pos}
theorem opEqNil_inv {x y : D} {s : S} {K : R → S → Prop} (h : opEqNil [x, y] s K E) : ∃ xs, x = .lst xs ∧ y = .lst [] ∧ K (.fz (.bl xs.isEmpty)) s := by
  cases x with
  | lst xs =>
    cases y with
    | lst ys =>
      cases ys with
      | nil => exact ⟨xs, rfl, rfl, h⟩
      | cons _ _ => exact h.elim
    | _ => exact h.elim
  | _ => exact h.elim
theorem tx_eqNil (g : Gd X F E) (ha : VX X F E Γ a ia) (hb : VX X F E Γ b ib) (hm : behindInMarks .Eq b = false := by first | exact nomark _ | rfl) : TX X F E Γ (.Compare a [.Eq] [b] pos) (.opx opEqNil [ia, ib]) :=
  PTimp (pt_cmpR (op_eqNil g.u) ha hb hm) fun σ H Q w => by
    obtain ⟨Z, ow, s, K, R, hf, hq⟩ := w
    have hf : vwOf ia (evP Γ ia).r s (fun x s1 => vwOf ib (evP Γ ib).r s1 (fun y s2 => res x s2 (fun dx s3 => res y s3 (fun dy s4 => opEqNil [dx, dy] s4 (fun r s5 => qTru r.d s5 K E) E) E) E) E) E := hf
    refine ⟨Z, ow, s, _, R, hf, fun x s1 v1 H1 ow1 k1 R1 o1 e1 => ⟨Z, ow1, s1, _, R1, k1, fun y s2 v2 H2 ow2 k2 R2 o2 e2 => ?_⟩⟩
    obtain ⟨dx, w1, hx⟩ := res_ok R2 (o1.tr R1 e2) k2
    obtain ⟨dy, w2, hy⟩ := res_ok R2 o2 w1
    obtain ⟨xs, rfl, rfl, w3⟩ := opEqNil_inv w2
    obtain ⟨p, vs, rfl, sp, l1⟩ := view_lst hx
    obtain ⟨q, ws, rfl, sq, l2⟩ := view_lst hy
    cases l2
    have e : vs.isEmpty = xs.isEmpty := by cases l1 <;> rfl
    exact ⟨p, q, vs, rfl, rfl, sp, sq, xs.isEmpty, by rw [e], hq _ s2 H2 ow2 w3.2 R2 (e1.trans e2)⟩
end
end PP
set_option Elab.async false
set_option linter.all false
set_option maxRecDepth 100000
set_option maxHeartbeats 4000000
namespace PP
open PySem L2
def N__law_is_mark : List Str := ["_law_thing", "_law_letters", "_law_one"]
def c__law_is_mark : List Sx := [(.asgF 1 (.str "abcdefghijklmnopqrstuvwxyz")), (.ret (.and (.isi (.var 0) [.b "str"]) (.and (.cmp2 .lt .lt (.int 0) (.bi .len [(.var 0)]) (.int 9)) (.bi .all [(.lc (.var 0) (.one 2) [] (.cmp .isin (.var 2) (.var 1)))]))))]
def N__law_is_count : List Str := ["_law_thing"]
def c__law_is_count : List Sx := [(.ret (.and (.isi (.var 0) [.b "int"]) (.and (.not (.isi (.var 0) [.b "bool"])) (.cmp .gt (.var 0) (.int 0)))))]
def N__law_is_deed : List Str := ["_law_thing"]
def c__law_is_deed : List Sx := [(.ite (.or (.not (.isi (.var 0) [.b "list", .b "tuple"])) (.or (.cmp .notin (.bi .len [(.var 0)]) (.tup [(.int 2), (.int 3)])) (.not (.isi (.idx (.var 0) (.int 0)) [.b "str"])))) [(.ret (.bl false))] []), (.ite (.cmp .eq (.bi .len [(.var 0)]) (.int 3)) [(.ret (.and (.cmp .eq (.idx (.var 0) (.int 0)) (.str "open")) (.and (.call "_law_is_mark" [(.idx (.var 0) (.int 1))] 0) (.call "_law_is_count" [(.idx (.var 0) (.int 2))] 0))))] []), (.ret (.or (.and (.cmp .isin (.idx (.var 0) (.int 0)) (.tup [(.str "days"), (.str "pause")])) (.call "_law_is_count" [(.idx (.var 0) (.int 1))] 0)) (.and (.cmp .eq (.idx (.var 0) (.int 0)) (.str "back")) (.call "_law_is_mark" [(.idx (.var 0) (.int 1))] 0))))]
def N__law_first_bad : List Str := ["_law_row_here", "_law_begun", "_law_gone", "_law_index_here", "_law_deed"]
def c__law_first_bad : List Sx := [(.par [1, 2] [(.lst []), (.lst [])]), (.for_ (.tup [(.one 3), (.one 4)]) (.bi .enum [(.var 0)]) [(.ite (.not (.call "_law_is_deed" [(.var 4)] 0)) [(.ret (.var 3))] []), (.ite (.and (.cmp .eq (.idx (.var 4) (.int 0)) (.str "open")) (.cmp .isin (.idx (.var 4) (.int 1)) (.var 1))) [(.ret (.var 3))] []), (.ite (.and (.cmp .eq (.idx (.var 4) (.int 0)) (.str "back")) (.or (.cmp .notin (.idx (.var 4) (.int 1)) (.var 1)) (.cmp .isin (.idx (.var 4) (.int 1)) (.var 2)))) [(.ret (.var 3))] []), (.ext 1 (.bin .rep (.lst [(.idx (.var 4) (.int 1))]) (.bi .int [(.cmp .eq (.idx (.var 4) (.int 0)) (.str "open"))]))), (.ext 2 (.bin .rep (.lst [(.idx (.var 4) (.int 1))]) (.bi .int [(.cmp .eq (.idx (.var 4) (.int 0)) (.str "back"))])))]), (.ret .non)]
def N__law_odd03 : List Str := ["_law_stream", "_law_pool_here", "_law_a", "_law_odd_here"]
def c__law_odd03 : List Sx := [(.asgF 2 (.call "_law_pick" [(.var 0), (.var 1)] 0)), (.asg 3 (.lst [.non, (.int 5), (.str "days"), (.tup []), (.tup [(.str "open"), (.var 2)]), (.tup [(.str "open"), (.var 2), (.int 0)]), (.tup [(.str "open"), (.var 2), (.neg (.int 3))]), (.tup [(.str "open"), (.var 2), (.bl true)]), (.tup [(.str "open"), (.str "A"), (.int 3)]), (.dct [] [])])), (.ext 3 (.lst [(.tup [(.str "open"), (.str ""), (.int 3)]), (.tup [(.str "open"), (.var 2), (.int 3), (.int 4)]), (.tup [(.str "days")]), (.tup [(.str "days"), (.int 0)]), (.tup [(.str "days"), (.str "3")]), (.tup [(.str "days"), .non])])), (.ext 3 (.lst [(.tup [(.str "pause"), (.bl false)]), (.tup [(.str "pause"), (.neg (.int 1))]), (.tup [(.str "back")]), (.tup [(.str "back"), (.int 5)]), (.tup [(.str "back"), (.str "a b")]), (.tup [(.str "back"), (.var 2), (.int 1)]), (.tup [(.str "shut"), (.var 2)])])), (.ext 3 (.lst [(.tup [(.int 3), (.var 2)]), (.lst [(.str "open"), (.var 2), .non]), (.tup [(.str "open"), (.var 2), (.int 2)]), (.tup [(.str "back"), (.var 2)]), (.tup [(.str "back"), (.var 2)]), (.lst [(.str "days"), (.int 3)]), (.tup [.non, (.int 3)])])), (.ext 3 (.lst [(.tup [(.str "open"), (.str "ninesigns"), (.int 2)]), (.tup [(.lst [(.str "open")]), (.var 2), (.int 3)]), (.tup [(.str "days"), (.int 2), (.int 3)]), (.tup [(.str "pause"), (.int 1), (.int 1)]), (.tup [(.str "back"), (.lst [(.str "a")])])])), (.app 3 (.tup [(.str "open"), (.lst [(.str "a")]), (.int 3)])), (.ret (.call "_law_pick" [(.var 0), (.var 3)] 0))]
def conIsMarkL : Con := fun as c K _ => ∃ d, as = [some d] ∧ OkIt d ∧ K (.fz (.bl (isMarkD d))) c
theorem p_is_markL {Γ : Env} : Impl Γ 3 conIsMarkL c__law_is_mark := by
  intro as c K h
  obtain ⟨d, rfl, ⟨hd, hl⟩, hk⟩ := h
  cases d with
  | str x =>
    have hx := hl x rfl
    ((repeat ((conv => whnf); refine And.intro (by first | exact rfl | exact trivial | exact ⟨rfl, rfl⟩ | exact ⟨rfl, strs_scal _⟩ | exact ⟨trivial, trivial⟩ | assumption | decide | exact Nat.le_of_ble_eq_true rfl | omega) ?_)); try (conv => whnf))
    have e1 : decide ((0 : Int) < (x.length : Int)) = decide (1 ≤ x.length) := decide_eq_decide.mpr (by omega)
    have e2 : decide ((x.length : Int) < 9) = decide (x.length ≤ 8) := decide_eq_decide.mpr (by omega)
    rw [e1]
    cases q1 : decide (1 ≤ x.length) with
    | false => ((repeat ((conv => whnf); refine And.intro (by first | exact rfl | exact trivial | exact ⟨rfl, rfl⟩ | exact ⟨rfl, strs_scal _⟩ | exact ⟨trivial, trivial⟩ | assumption | decide | exact Nat.le_of_ble_eq_true rfl | omega) ?_)); try (conv => whnf)); simp only [isMarkD, q1, Bool.false_and] at hk; exact hk
    | true =>
      ((repeat ((conv => whnf); refine And.intro (by first | exact rfl | exact trivial | exact ⟨rfl, rfl⟩ | exact ⟨rfl, strs_scal _⟩ | exact ⟨trivial, trivial⟩ | assumption | decide | exact Nat.le_of_ble_eq_true rfl | omega) ?_)); try (conv => whnf))
      rw [e2]
      cases q2 : decide (x.length ≤ 8) with
      | false => ((repeat ((conv => whnf); refine And.intro (by first | exact rfl | exact trivial | exact ⟨rfl, rfl⟩ | exact ⟨rfl, strs_scal _⟩ | exact ⟨trivial, trivial⟩ | assumption | decide | exact Nat.le_of_ble_eq_true rfl | omega) ?_)); try (conv => whnf)); simp only [isMarkD, q1, q2, Bool.false_and, Bool.and_false] at hk; exact hk
      | true =>
        ((repeat ((conv => whnf); refine And.intro (by first | exact rfl | exact trivial | exact ⟨rfl, rfl⟩ | exact ⟨rfl, strs_scal _⟩ | exact ⟨trivial, trivial⟩ | assumption | decide | exact Nat.le_of_ble_eq_true rfl | omega) ?_)); try (conv => whnf))
        simp only [isMarkD, q1, q2, Bool.true_and] at hk
        refine lc_ind (α := D) (W := fun xs acc s => ∃ (l1 l2 : List Nat) (o : Option P), xs = l2.map (fun c => D.str ⟨#[c]⟩) ∧ acc = (l1.map inLet).map D.bl ∧ l1 ++ l2 = x.cps.toList ∧ isIo o = false ∧ s = ⟨[some (.fz (.str x)), some (.fz (.str letters)), o], c⟩) (fun acc s h => ?_) (fun y xs acc s h ih => ?_) _ _ _ ⟨[], x.cps.toList, none, rfl, rfl, rfl, rfl, rfl⟩
        · obtain ⟨l1, l2, o, e, rfl, e3, ho, rfl⟩ := h
          cases l2 with
          | cons _ _ => cases e
          | nil =>
            rw [List.append_nil] at e3
            subst e3
            refine And.intro ?_ ?_
            · show (!isIo o && true) = true
              rw [ho]; rfl
            conv => whnf
            rw [asBls_map]
            conv => whnf
            have e4 : (x.cps.toList.map inLet).all id = x.cps.toList.all inLet := by rw [List.all_map]; rfl
            rw [e4]
            exact hk
        · obtain ⟨l1, l2, o, e, rfl, e3, ho, rfl⟩ := h
          cases l2 with
          | nil => cases e
          | cons z l2 =>
            cases e
            refine And.intro (show (!isIo o && true) = true by rw [ho]; rfl) ?_
            refine And.intro rfl ?_
            conv => whnf
            exact ih _ _ ⟨l1 ++ [z], l2, some (.fz (.str ⟨#[z]⟩)), rfl, by rw [List.map_append, List.map_append]; rfl, by rw [← e3]; simp, rfl, rfl⟩
  | obj c fs => cases hd
  | dctT _ => cases hd
  | _ => ((repeat ((conv => whnf); refine And.intro (by first | exact rfl | exact trivial | exact ⟨rfl, rfl⟩ | exact ⟨rfl, strs_scal _⟩ | exact ⟨trivial, trivial⟩ | assumption | decide | exact Nat.le_of_ble_eq_true rfl | omega) ?_)); try (conv => whnf)); exact hk
def conIsCountL : Con := fun as c K _ => ∃ d, as = [some d] ∧ bltTy (tyD d) = true ∧ K (.fz (.bl (isCountD d))) c
theorem p_is_countL {Γ : Env} : Impl Γ 1 conIsCountL c__law_is_count := by
  intro as c K h
  obtain ⟨d, rfl, hd, hk⟩ := h
  cases d with
  | int i =>
    ((repeat ((conv => whnf); refine And.intro (by first | exact rfl | exact trivial | exact ⟨rfl, rfl⟩ | exact ⟨rfl, strs_scal _⟩ | exact ⟨trivial, trivial⟩ | assumption | decide | exact Nat.le_of_ble_eq_true rfl | omega) ?_)); try (conv => whnf))
    exact hk
  | bl b =>
    ((repeat ((conv => whnf); refine And.intro (by first | exact rfl | exact trivial | exact ⟨rfl, rfl⟩ | exact ⟨rfl, strs_scal _⟩ | exact ⟨trivial, trivial⟩ | assumption | decide | exact Nat.le_of_ble_eq_true rfl | omega) ?_)); try (conv => whnf))
    exact hk
  | obj c fs => cases hd
  | dctT _ => cases hd
  | _ => exact And.intro ⟨hd, rfl⟩ hk
def conIsDeedL : Con := fun as c K _ => ∃ x, as = [some x] ∧ OkDeed x ∧ K (.fz (.bl (deedP x).isSome)) c
theorem lenin4 (n : Nat) (h : 4 ≤ n) : inD (.int (n : Int)) [.int 2, .int 3] = false := by
  unfold inD
  rw [List.any_eq_false]
  intro d hd e
  simp only [List.mem_cons, List.mem_nil_iff, or_false] at hd
  rcases hd with rfl | rfl
  · have : (2 : Int) = n := by simpa [toV, eqV] using e
    omega
  · have : (3 : Int) = n := by simpa [toV, eqV] using e
    omega
theorem deedL_lst {Γ : Env} (h1 : Γ.fn "_law_is_mark" = some (.pl conIsMarkL false [])) (h2 : Γ.fn "_law_is_count" = some (.pl conIsCountL false [])) {c : Stm} {n : En} (xs : List D) (it : ∀ y ∈ xs, OkIt y) (hk : n.rt (.fz (.bl (deedL xs).isSome)) ⟨[some (.fz (.lst xs))], c⟩) : exSs Γ c__law_is_deed n ⟨[some (.fz (.lst xs))], c⟩ := by
  rcases xs with _ | ⟨a, _ | ⟨x, _ | ⟨y, _ | ⟨z, r⟩⟩⟩⟩
  · ((repeat ((conv => whnf); refine And.intro (by first | exact rfl | exact trivial | exact ⟨rfl, rfl⟩ | exact ⟨rfl, strs_scal _⟩ | exact ⟨trivial, trivial⟩ | assumption | decide | exact Nat.le_of_ble_eq_true rfl | omega) ?_)); try (conv => whnf)); exact hk
  · have e : deedL [a] = none := by
      cases a with
      | str w => show deedW w [] = none; unfold deedW; simp [one1, two2]
      | _ => rfl
    rw [e] at hk
    ((repeat ((conv => whnf); refine And.intro (by first | exact rfl | exact trivial | exact ⟨rfl, rfl⟩ | exact ⟨rfl, strs_scal _⟩ | exact ⟨trivial, trivial⟩ | assumption | decide | exact Nat.le_of_ble_eq_true rfl | omega) ?_)); try (conv => whnf)); exact hk
  · have ha := it a (by simp)
    have hx := it x (by simp)
    ((repeat ((conv => whnf); refine And.intro (by first | exact rfl | exact trivial | exact ⟨rfl, rfl⟩ | exact ⟨rfl, strs_scal _⟩ | exact ⟨trivial, trivial⟩ | assumption | decide | exact Nat.le_of_ble_eq_true rfl | omega) ?_)); try (conv => whnf))
    cases a with
    | obj c fs => exact Bool.noConfusion ha.1
    | dctT kvs => exact Bool.noConfusion ha.1
    | str w =>
      have hk : n.rt (.fz (.bl (deedW w [x]).isSome)) ⟨[some (.fz (.lst [.str w, x]))], c⟩ := hk
      have cn : isCountD x = (cntOf x).isSome := by
        cases q : isCountD x with
        | true => obtain ⟨k, _, _, e⟩ := cnt_true q; rw [e]; rfl
        | false => rw [cnt_false q]; rfl
      have mn : isMarkD x = (mkOf x).isSome := by
        cases q : isMarkD x with
        | true => obtain ⟨k, _, e⟩ := mk_true q; rw [e]; rfl
        | false => rw [mk_false q]; rfl
      ((repeat ((conv => whnf); refine And.intro (by first | exact rfl | exact trivial | exact ⟨rfl, rfl⟩ | exact ⟨rfl, strs_scal _⟩ | exact ⟨trivial, trivial⟩ | assumption | decide | exact Nat.le_of_ble_eq_true rfl | omega) ?_)); try (conv => whnf))
      rw [show inD (R.fz (D.str w)).d [(R.fz (D.str (Str.ofString "days"))).d, (R.fz (D.str (Str.ofString "pause"))).d] = decide (w ∈ [("days" : Str), ("pause" : Str)]) from inD_strs w [_, _]]
      by_cases e2 : w ∈ [("days" : Str), ("pause" : Str)]
      · rw [decide_eq_true e2]
        have e4 : (deedW w [x]).isSome = isCountD x := by
          rw [cn]
          simp only [List.mem_cons, List.mem_nil_iff, or_false] at e2
          rcases e2 with rfl | rfl
          · show ((cntOf x).map Deed.days).isSome = _
            rw [Option.isSome_map]
          · show ((cntOf x).map Deed.pause).isSome = _
            rw [Option.isSome_map]
        rw [e4] at hk
        have e5 : decide (toV (R.fz (D.str w)).d = toV (R.fz (D.str (Str.ofString "back"))).d) = false := (strV w ("back" : Str)).trans (decide_eq_false (by rintro rfl; revert e2; decide))
        ((repeat (first | ((conv => whnf); refine And.intro (by first | exact rfl | exact trivial | exact ⟨rfl, rfl⟩ | exact ⟨rfl, strs_scal _⟩ | exact ⟨trivial, trivial⟩ | assumption | decide | exact Nat.le_of_ble_eq_true rfl | omega) ?_) | ((conv => whnf); first | rw [h2]))); try (conv => whnf))
        refine ⟨x, rfl, hx.1, fun _ => rfl, ?_⟩
        cases q : isCountD x with
        | true => rw [q] at hk; exact hk
        | false =>
          rw [q] at hk
          ((repeat ((conv => whnf); refine And.intro (by first | exact rfl | exact trivial | exact ⟨rfl, rfl⟩ | exact ⟨rfl, strs_scal _⟩ | exact ⟨trivial, trivial⟩ | assumption | decide | exact Nat.le_of_ble_eq_true rfl | omega) ?_)); try (conv => whnf))
          rw [e5]
          ((repeat ((conv => whnf); refine And.intro (by first | exact rfl | exact trivial | exact ⟨rfl, rfl⟩ | exact ⟨rfl, strs_scal _⟩ | exact ⟨trivial, trivial⟩ | assumption | decide | exact Nat.le_of_ble_eq_true rfl | omega) ?_)); try (conv => whnf))
          exact hk
      · rw [decide_eq_false e2]
        have n1 : w ≠ ("days" : Str) := fun e => e2 (by rw [e]; simp)
        have n2 : w ≠ ("pause" : Str) := fun e => e2 (by rw [e]; simp)
        by_cases e3 : w = ("back" : Str)
        · subst e3
          rw [show (deedW ("back" : Str) [x]).isSome = isMarkD x by rw [mn]; show ((mkOf x).map Deed.back).isSome = _; rw [Option.isSome_map]] at hk
          ((repeat (first | ((conv => whnf); refine And.intro (by first | exact rfl | exact trivial | exact ⟨rfl, rfl⟩ | exact ⟨rfl, strs_scal _⟩ | exact ⟨trivial, trivial⟩ | assumption | decide | exact Nat.le_of_ble_eq_true rfl | omega) ?_) | ((conv => whnf); first | rw [h1]))); try (conv => whnf))
          exact ⟨x, rfl, hx, fun _ => rfl, hk⟩
        · have e5 : decide (toV (R.fz (D.str w)).d = toV (R.fz (D.str (Str.ofString "back"))).d) = false := (strV w ("back" : Str)).trans (decide_eq_false e3)
          rw [show (deedW w [x]).isSome = false by unfold deedW; rw [if_neg n1, if_neg n2, if_neg e3]; by_cases e : w = ("open" : Str) <;> simp [e, two2]] at hk
          ((repeat ((conv => whnf); refine And.intro (by first | exact rfl | exact trivial | exact ⟨rfl, rfl⟩ | exact ⟨rfl, strs_scal _⟩ | exact ⟨trivial, trivial⟩ | assumption | decide | exact Nat.le_of_ble_eq_true rfl | omega) ?_)); try (conv => whnf))
          rw [e5]
          ((repeat ((conv => whnf); refine And.intro (by first | exact rfl | exact trivial | exact ⟨rfl, rfl⟩ | exact ⟨rfl, strs_scal _⟩ | exact ⟨trivial, trivial⟩ | assumption | decide | exact Nat.le_of_ble_eq_true rfl | omega) ?_)); try (conv => whnf))
          exact hk
    | _ => ((repeat ((conv => whnf); refine And.intro (by first | exact rfl | exact trivial | exact ⟨rfl, rfl⟩ | exact ⟨rfl, strs_scal _⟩ | exact ⟨trivial, trivial⟩ | assumption | decide | exact Nat.le_of_ble_eq_true rfl | omega) ?_)); try (conv => whnf)); exact hk
  · have ha := it a (by simp)
    have hx := it x (by simp)
    have hy := it y (by simp)
    ((repeat ((conv => whnf); refine And.intro (by first | exact rfl | exact trivial | exact ⟨rfl, rfl⟩ | exact ⟨rfl, strs_scal _⟩ | exact ⟨trivial, trivial⟩ | assumption | decide | exact Nat.le_of_ble_eq_true rfl | omega) ?_)); try (conv => whnf))
    cases a with
    | obj c fs => exact Bool.noConfusion ha.1
    | dctT kvs => exact Bool.noConfusion ha.1
    | str w =>
      have hk : n.rt (.fz (.bl (deedW w [x, y]).isSome)) ⟨[some (.fz (.lst [.str w, x, y]))], c⟩ := hk
      ((repeat ((conv => whnf); refine And.intro (by first | exact rfl | exact trivial | exact ⟨rfl, rfl⟩ | exact ⟨rfl, strs_scal _⟩ | exact ⟨trivial, trivial⟩ | assumption | decide | exact Nat.le_of_ble_eq_true rfl | omega) ?_)); try (conv => whnf))
      by_cases e1 : w = ("open" : Str)
      · subst e1
        have hk : n.rt (.fz (.bl (opF x y).isSome)) ⟨[some (.fz (.lst [.str "open", x, y]))], c⟩ := hk
        ((repeat (first | ((conv => whnf); refine And.intro (by first | exact rfl | exact trivial | exact ⟨rfl, rfl⟩ | exact ⟨rfl, strs_scal _⟩ | exact ⟨trivial, trivial⟩ | assumption | decide | exact Nat.le_of_ble_eq_true rfl | omega) ?_) | ((conv => whnf); first | rw [h1]))); try (conv => whnf))
        refine ⟨x, rfl, hx, fun _ => rfl, ?_⟩
        cases q : isMarkD x with
        | false =>
          rw [show opF x y = none by unfold opF; rw [mk_false q]] at hk
          ((repeat ((conv => whnf); refine And.intro (by first | exact rfl | exact trivial | exact ⟨rfl, rfl⟩ | exact ⟨rfl, strs_scal _⟩ | exact ⟨trivial, trivial⟩ | assumption | decide | exact Nat.le_of_ble_eq_true rfl | omega) ?_)); try (conv => whnf)); exact hk
        | true =>
          obtain ⟨m, rfl, e5⟩ := mk_true q
          ((repeat (first | ((conv => whnf); refine And.intro (by first | exact rfl | exact trivial | exact ⟨rfl, rfl⟩ | exact ⟨rfl, strs_scal _⟩ | exact ⟨trivial, trivial⟩ | assumption | decide | exact Nat.le_of_ble_eq_true rfl | omega) ?_) | ((conv => whnf); first | rw [h2]))); try (conv => whnf))
          refine ⟨y, rfl, hy.1, fun _ => rfl, ?_⟩
          cases q2 : isCountD y with
          | false =>
            rw [show opF (.str m) y = none by unfold opF; rw [e5, cnt_false q2]] at hk
            exact hk
          | true =>
            obtain ⟨k, rfl, _, e6⟩ := cnt_true q2
            rw [show opF (.str m) (.int k) = some (.op m k) by unfold opF; rw [e5, e6]] at hk
            exact hk
      · have e5 : decide (toV (R.fz (D.str w)).d = toV (R.fz (D.str (Str.ofString "open"))).d) = false := (strV w ("open" : Str)).trans (decide_eq_false e1)
        have e : deedW w [x, y] = none := by unfold deedW; rw [if_neg e1]; simp [one1]
        rw [e] at hk
        rw [e5]
        ((repeat ((conv => whnf); refine And.intro (by first | exact rfl | exact trivial | exact ⟨rfl, rfl⟩ | exact ⟨rfl, strs_scal _⟩ | exact ⟨trivial, trivial⟩ | assumption | decide | exact Nat.le_of_ble_eq_true rfl | omega) ?_)); try (conv => whnf)); exact hk
    | _ => ((repeat ((conv => whnf); refine And.intro (by first | exact rfl | exact trivial | exact ⟨rfl, rfl⟩ | exact ⟨rfl, strs_scal _⟩ | exact ⟨trivial, trivial⟩ | assumption | decide | exact Nat.le_of_ble_eq_true rfl | omega) ?_)); try (conv => whnf)); exact hk
  · have e : deedL (a :: x :: y :: z :: r) = none := by
      cases a with
      | str w => show deedW w (x :: y :: z :: r) = none; unfold deedW; simp [one1, two2]
      | _ => rfl
    rw [e] at hk
    (conv => whnf)
    refine And.intro ⟨rfl, rfl⟩ ?_
    (conv => whnf)
    refine And.intro trivial ?_
    (conv => whnf)
    refine And.intro (Nat.le_of_ble_eq_true rfl) ?_
    (conv => whnf)
    refine And.intro ⟨rfl, rfl⟩ ?_
    (conv => whnf)
    rw [show inD (R.fz (D.int ((a :: x :: y :: z :: r).length : Nat))).d [(R.fz (D.int 2)).d, (R.fz (D.int 3)).d] = false from lenin4 _ (by simp)]
    ((repeat ((conv => whnf); refine And.intro (by first | exact rfl | exact trivial | exact ⟨rfl, rfl⟩ | exact ⟨rfl, strs_scal _⟩ | exact ⟨trivial, trivial⟩ | assumption | decide | exact Nat.le_of_ble_eq_true rfl | omega) ?_)); try (conv => whnf)); exact hk
theorem deedL_tup {Γ : Env} (h1 : Γ.fn "_law_is_mark" = some (.pl conIsMarkL false [])) (h2 : Γ.fn "_law_is_count" = some (.pl conIsCountL false [])) {c : Stm} {n : En} (xs : List D) (it : ∀ y ∈ xs, OkIt y) (hk : n.rt (.fz (.bl (deedL xs).isSome)) ⟨[some (.fz (.tup xs))], c⟩) : exSs Γ c__law_is_deed n ⟨[some (.fz (.tup xs))], c⟩ := by
  rcases xs with _ | ⟨a, _ | ⟨x, _ | ⟨y, _ | ⟨z, r⟩⟩⟩⟩
  · ((repeat ((conv => whnf); refine And.intro (by first | exact rfl | exact trivial | exact ⟨rfl, rfl⟩ | exact ⟨rfl, strs_scal _⟩ | exact ⟨trivial, trivial⟩ | assumption | decide | exact Nat.le_of_ble_eq_true rfl | omega) ?_)); try (conv => whnf)); exact hk
  · have e : deedL [a] = none := by
      cases a with
      | str w => show deedW w [] = none; unfold deedW; simp [one1, two2]
      | _ => rfl
    rw [e] at hk
    ((repeat ((conv => whnf); refine And.intro (by first | exact rfl | exact trivial | exact ⟨rfl, rfl⟩ | exact ⟨rfl, strs_scal _⟩ | exact ⟨trivial, trivial⟩ | assumption | decide | exact Nat.le_of_ble_eq_true rfl | omega) ?_)); try (conv => whnf)); exact hk
  · have ha := it a (by simp)
    have hx := it x (by simp)
    ((repeat ((conv => whnf); refine And.intro (by first | exact rfl | exact trivial | exact ⟨rfl, rfl⟩ | exact ⟨rfl, strs_scal _⟩ | exact ⟨trivial, trivial⟩ | assumption | decide | exact Nat.le_of_ble_eq_true rfl | omega) ?_)); try (conv => whnf))
    cases a with
    | obj c fs => exact Bool.noConfusion ha.1
    | dctT kvs => exact Bool.noConfusion ha.1
    | str w =>
      have hk : n.rt (.fz (.bl (deedW w [x]).isSome)) ⟨[some (.fz (.tup [.str w, x]))], c⟩ := hk
      have cn : isCountD x = (cntOf x).isSome := by
        cases q : isCountD x with
        | true => obtain ⟨k, _, _, e⟩ := cnt_true q; rw [e]; rfl
        | false => rw [cnt_false q]; rfl
      have mn : isMarkD x = (mkOf x).isSome := by
        cases q : isMarkD x with
        | true => obtain ⟨k, _, e⟩ := mk_true q; rw [e]; rfl
        | false => rw [mk_false q]; rfl
      ((repeat ((conv => whnf); refine And.intro (by first | exact rfl | exact trivial | exact ⟨rfl, rfl⟩ | exact ⟨rfl, strs_scal _⟩ | exact ⟨trivial, trivial⟩ | assumption | decide | exact Nat.le_of_ble_eq_true rfl | omega) ?_)); try (conv => whnf))
      rw [show inD (R.fz (D.str w)).d [(R.fz (D.str (Str.ofString "days"))).d, (R.fz (D.str (Str.ofString "pause"))).d] = decide (w ∈ [("days" : Str), ("pause" : Str)]) from inD_strs w [_, _]]
      by_cases e2 : w ∈ [("days" : Str), ("pause" : Str)]
      · rw [decide_eq_true e2]
        have e4 : (deedW w [x]).isSome = isCountD x := by
          rw [cn]
          simp only [List.mem_cons, List.mem_nil_iff, or_false] at e2
          rcases e2 with rfl | rfl
          · show ((cntOf x).map Deed.days).isSome = _
            rw [Option.isSome_map]
          · show ((cntOf x).map Deed.pause).isSome = _
            rw [Option.isSome_map]
        rw [e4] at hk
        have e5 : decide (toV (R.fz (D.str w)).d = toV (R.fz (D.str (Str.ofString "back"))).d) = false := (strV w ("back" : Str)).trans (decide_eq_false (by rintro rfl; revert e2; decide))
        ((repeat (first | ((conv => whnf); refine And.intro (by first | exact rfl | exact trivial | exact ⟨rfl, rfl⟩ | exact ⟨rfl, strs_scal _⟩ | exact ⟨trivial, trivial⟩ | assumption | decide | exact Nat.le_of_ble_eq_true rfl | omega) ?_) | ((conv => whnf); first | rw [h2]))); try (conv => whnf))
        refine ⟨x, rfl, hx.1, fun _ => rfl, ?_⟩
        cases q : isCountD x with
        | true => rw [q] at hk; exact hk
        | false =>
          rw [q] at hk
          ((repeat ((conv => whnf); refine And.intro (by first | exact rfl | exact trivial | exact ⟨rfl, rfl⟩ | exact ⟨rfl, strs_scal _⟩ | exact ⟨trivial, trivial⟩ | assumption | decide | exact Nat.le_of_ble_eq_true rfl | omega) ?_)); try (conv => whnf))
          rw [e5]
          ((repeat ((conv => whnf); refine And.intro (by first | exact rfl | exact trivial | exact ⟨rfl, rfl⟩ | exact ⟨rfl, strs_scal _⟩ | exact ⟨trivial, trivial⟩ | assumption | decide | exact Nat.le_of_ble_eq_true rfl | omega) ?_)); try (conv => whnf))
          exact hk
      · rw [decide_eq_false e2]
        have n1 : w ≠ ("days" : Str) := fun e => e2 (by rw [e]; simp)
        have n2 : w ≠ ("pause" : Str) := fun e => e2 (by rw [e]; simp)
        by_cases e3 : w = ("back" : Str)
        · subst e3
          rw [show (deedW ("back" : Str) [x]).isSome = isMarkD x by rw [mn]; show ((mkOf x).map Deed.back).isSome = _; rw [Option.isSome_map]] at hk
          ((repeat (first | ((conv => whnf); refine And.intro (by first | exact rfl | exact trivial | exact ⟨rfl, rfl⟩ | exact ⟨rfl, strs_scal _⟩ | exact ⟨trivial, trivial⟩ | assumption | decide | exact Nat.le_of_ble_eq_true rfl | omega) ?_) | ((conv => whnf); first | rw [h1]))); try (conv => whnf))
          exact ⟨x, rfl, hx, fun _ => rfl, hk⟩
        · have e5 : decide (toV (R.fz (D.str w)).d = toV (R.fz (D.str (Str.ofString "back"))).d) = false := (strV w ("back" : Str)).trans (decide_eq_false e3)
          rw [show (deedW w [x]).isSome = false by unfold deedW; rw [if_neg n1, if_neg n2, if_neg e3]; by_cases e : w = ("open" : Str) <;> simp [e, two2]] at hk
          ((repeat ((conv => whnf); refine And.intro (by first | exact rfl | exact trivial | exact ⟨rfl, rfl⟩ | exact ⟨rfl, strs_scal _⟩ | exact ⟨trivial, trivial⟩ | assumption | decide | exact Nat.le_of_ble_eq_true rfl | omega) ?_)); try (conv => whnf))
          rw [e5]
          ((repeat ((conv => whnf); refine And.intro (by first | exact rfl | exact trivial | exact ⟨rfl, rfl⟩ | exact ⟨rfl, strs_scal _⟩ | exact ⟨trivial, trivial⟩ | assumption | decide | exact Nat.le_of_ble_eq_true rfl | omega) ?_)); try (conv => whnf))
          exact hk
    | _ => ((repeat ((conv => whnf); refine And.intro (by first | exact rfl | exact trivial | exact ⟨rfl, rfl⟩ | exact ⟨rfl, strs_scal _⟩ | exact ⟨trivial, trivial⟩ | assumption | decide | exact Nat.le_of_ble_eq_true rfl | omega) ?_)); try (conv => whnf)); exact hk
  · have ha := it a (by simp)
    have hx := it x (by simp)
    have hy := it y (by simp)
    ((repeat ((conv => whnf); refine And.intro (by first | exact rfl | exact trivial | exact ⟨rfl, rfl⟩ | exact ⟨rfl, strs_scal _⟩ | exact ⟨trivial, trivial⟩ | assumption | decide | exact Nat.le_of_ble_eq_true rfl | omega) ?_)); try (conv => whnf))
    cases a with
    | obj c fs => exact Bool.noConfusion ha.1
    | dctT kvs => exact Bool.noConfusion ha.1
    | str w =>
      have hk : n.rt (.fz (.bl (deedW w [x, y]).isSome)) ⟨[some (.fz (.tup [.str w, x, y]))], c⟩ := hk
      ((repeat ((conv => whnf); refine And.intro (by first | exact rfl | exact trivial | exact ⟨rfl, rfl⟩ | exact ⟨rfl, strs_scal _⟩ | exact ⟨trivial, trivial⟩ | assumption | decide | exact Nat.le_of_ble_eq_true rfl | omega) ?_)); try (conv => whnf))
      by_cases e1 : w = ("open" : Str)
      · subst e1
        have hk : n.rt (.fz (.bl (opF x y).isSome)) ⟨[some (.fz (.tup [.str "open", x, y]))], c⟩ := hk
        ((repeat (first | ((conv => whnf); refine And.intro (by first | exact rfl | exact trivial | exact ⟨rfl, rfl⟩ | exact ⟨rfl, strs_scal _⟩ | exact ⟨trivial, trivial⟩ | assumption | decide | exact Nat.le_of_ble_eq_true rfl | omega) ?_) | ((conv => whnf); first | rw [h1]))); try (conv => whnf))
        refine ⟨x, rfl, hx, fun _ => rfl, ?_⟩
        cases q : isMarkD x with
        | false =>
          rw [show opF x y = none by unfold opF; rw [mk_false q]] at hk
          ((repeat ((conv => whnf); refine And.intro (by first | exact rfl | exact trivial | exact ⟨rfl, rfl⟩ | exact ⟨rfl, strs_scal _⟩ | exact ⟨trivial, trivial⟩ | assumption | decide | exact Nat.le_of_ble_eq_true rfl | omega) ?_)); try (conv => whnf)); exact hk
        | true =>
          obtain ⟨m, rfl, e5⟩ := mk_true q
          ((repeat (first | ((conv => whnf); refine And.intro (by first | exact rfl | exact trivial | exact ⟨rfl, rfl⟩ | exact ⟨rfl, strs_scal _⟩ | exact ⟨trivial, trivial⟩ | assumption | decide | exact Nat.le_of_ble_eq_true rfl | omega) ?_) | ((conv => whnf); first | rw [h2]))); try (conv => whnf))
          refine ⟨y, rfl, hy.1, fun _ => rfl, ?_⟩
          cases q2 : isCountD y with
          | false =>
            rw [show opF (.str m) y = none by unfold opF; rw [e5, cnt_false q2]] at hk
            exact hk
          | true =>
            obtain ⟨k, rfl, _, e6⟩ := cnt_true q2
            rw [show opF (.str m) (.int k) = some (.op m k) by unfold opF; rw [e5, e6]] at hk
            exact hk
      · have e5 : decide (toV (R.fz (D.str w)).d = toV (R.fz (D.str (Str.ofString "open"))).d) = false := (strV w ("open" : Str)).trans (decide_eq_false e1)
        have e : deedW w [x, y] = none := by unfold deedW; rw [if_neg e1]; simp [one1]
        rw [e] at hk
        rw [e5]
        ((repeat ((conv => whnf); refine And.intro (by first | exact rfl | exact trivial | exact ⟨rfl, rfl⟩ | exact ⟨rfl, strs_scal _⟩ | exact ⟨trivial, trivial⟩ | assumption | decide | exact Nat.le_of_ble_eq_true rfl | omega) ?_)); try (conv => whnf)); exact hk
    | _ => ((repeat ((conv => whnf); refine And.intro (by first | exact rfl | exact trivial | exact ⟨rfl, rfl⟩ | exact ⟨rfl, strs_scal _⟩ | exact ⟨trivial, trivial⟩ | assumption | decide | exact Nat.le_of_ble_eq_true rfl | omega) ?_)); try (conv => whnf)); exact hk
  · have e : deedL (a :: x :: y :: z :: r) = none := by
      cases a with
      | str w => show deedW w (x :: y :: z :: r) = none; unfold deedW; simp [one1, two2]
      | _ => rfl
    rw [e] at hk
    (conv => whnf)
    refine And.intro ⟨rfl, rfl⟩ ?_
    (conv => whnf)
    refine And.intro trivial ?_
    (conv => whnf)
    refine And.intro (Nat.le_of_ble_eq_true rfl) ?_
    (conv => whnf)
    refine And.intro ⟨rfl, rfl⟩ ?_
    (conv => whnf)
    rw [show inD (R.fz (D.int ((a :: x :: y :: z :: r).length : Nat))).d [(R.fz (D.int 2)).d, (R.fz (D.int 3)).d] = false from lenin4 _ (by simp)]
    ((repeat ((conv => whnf); refine And.intro (by first | exact rfl | exact trivial | exact ⟨rfl, rfl⟩ | exact ⟨rfl, strs_scal _⟩ | exact ⟨trivial, trivial⟩ | assumption | decide | exact Nat.le_of_ble_eq_true rfl | omega) ?_)); try (conv => whnf)); exact hk
theorem p_is_deedL {Γ : Env} (h1 : Γ.fn "_law_is_mark" = some (.pl conIsMarkL false [])) (h2 : Γ.fn "_law_is_count" = some (.pl conIsCountL false [])) : Impl Γ 1 conIsDeedL c__law_is_deed := by
  intro as c K h
  obtain ⟨x, rfl, ok, hk⟩ := h
  cases x with
  | obj c fs => exact Bool.noConfusion ok.ty
  | dctT kvs => exact Bool.noConfusion ok.ty
  | kt xs => exact absurd rfl (ok.kt xs)
  | lst xs => exact deedL_lst h1 h2 xs (ok.it xs (.inl rfl)) hk
  | tup xs => exact deedL_tup h1 h2 xs (ok.it xs (.inr rfl)) hk
  | _ => ((repeat ((conv => whnf); refine And.intro (by first | exact rfl | exact trivial | exact ⟨rfl, rfl⟩ | exact ⟨rfl, strs_scal _⟩ | exact ⟨trivial, trivial⟩ | assumption | decide | exact Nat.le_of_ble_eq_true rfl | omega) ?_)); try (conv => whnf)); exact hk
def idxD : Option Nat → D
  | none => .non
  | some i => .int (i : Int)
def conFirstBad : Con := fun as c K _ => ∃ xs, as = [some (.lst xs)] ∧ (∀ x ∈ xs, OkDeed x) ∧ xs.length ≤ 100000 ∧ K (.fz (idxD (chk [] [] 0 xs))) c
def bL_first : List Sx := [(.ite (.not (.call "_law_is_deed" [(.var 4)] 0)) [(.ret (.var 3))] []), (.ite (.and (.cmp .eq (.idx (.var 4) (.int 0)) (.str "open")) (.cmp .isin (.idx (.var 4) (.int 1)) (.var 1))) [(.ret (.var 3))] []), (.ite (.and (.cmp .eq (.idx (.var 4) (.int 0)) (.str "back")) (.or (.cmp .notin (.idx (.var 4) (.int 1)) (.var 1)) (.cmp .isin (.idx (.var 4) (.int 1)) (.var 2)))) [(.ret (.var 3))] []), (.ext 1 (.bin .rep (.lst [(.idx (.var 4) (.int 1))]) (.bi .int [(.cmp .eq (.idx (.var 4) (.int 0)) (.str "open"))]))), (.ext 2 (.bin .rep (.lst [(.idx (.var 4) (.int 1))]) (.bi .int [(.cmp .eq (.idx (.var 4) (.int 0)) (.str "back"))])))]
structure Gone (op cn gn : List Str) : Prop where
  nd : cn.Nodup
  cn : ∀ m, m ∈ cn ↔ m ∈ op ∧ m ∉ gn
  gn : ∀ m ∈ gn, m ∈ op
theorem Gone.op {op cn gn : List Str} (h : Gone op cn gn) {m : Str} (hm : m ∉ op) : Gone (op ++ [m]) (cn ++ [m]) gn := by
  refine ⟨List.nodup_append.mpr ⟨h.nd, by simp, fun a ha b hb e => hm (by rw [← List.mem_singleton.mp hb, ← e]; exact ((h.cn a).mp ha).1)⟩, fun x => ?_, fun x hx => List.mem_append_left _ (h.gn x hx)⟩
  rw [List.mem_append, List.mem_append, h.cn, List.mem_singleton]
  constructor
  · rintro (⟨a, b⟩ | rfl)
    · exact ⟨.inl a, b⟩
    · exact ⟨.inr rfl, fun q => hm (h.gn _ q)⟩
  · rintro ⟨a | rfl, b⟩
    · exact .inl ⟨a, b⟩
    · exact .inr rfl
theorem Gone.back {op cn gn : List Str} (h : Gone op cn gn) {m : Str} (hm : m ∈ cn) : Gone op (cn.erase m) (gn ++ [m]) := by
  refine ⟨h.nd.erase m, fun x => ?_, fun x hx => ?_⟩
  · rw [h.nd.mem_erase_iff, h.cn, List.mem_append, List.mem_singleton]
    constructor
    · rintro ⟨a, b, c⟩; exact ⟨b, fun q => q.elim c a⟩
    · rintro ⟨a, b⟩; exact ⟨fun q => b (.inr q), a, fun q => b (.inl q)⟩
  · rcases List.mem_append.mp hx with q | q
    · exact h.gn x q
    · rw [List.mem_singleton.mp q]; exact ((h.cn m).mp hm).1
theorem first_go {Γ : Env} (h1 : Γ.fn "_law_is_deed" = some (.pl conIsDeedL false [])) {rowD : D} {c : Stm} {n : En} : ∀ (xs : List D) (op cn gn : List Str) (k : Nat) (o3 o4 : Option P), (∀ x ∈ xs, OkDeed x) → isIo o3 = false → isIo o4 = false → Gone op cn gn → op.length + xs.length ≤ 100000 → gn.length + xs.length ≤ 100000 →
    (∀ s, S.c s = c → (chk op cn k xs = none → n.nx s) ∧ ∀ i, chk op cn k xs = some i → n.rt (.fz (.int (i : Int))) s) →
    forGo (.tup [.one 3, .one 4]) (exSs Γ bL_first) (enumD k xs) n ⟨[some (.fz rowD), some (.own (op.map D.str)), some (.own (gn.map D.str)), o3, o4], c⟩ := by
  have sb := sizeLine_big
  intro xs
  induction xs with
  | nil =>
    intro op cn gn k o3 o4 ok i3 i4 hg l1 l2 hk
    exact (hk _ rfl).1 rfl
  | cons x xs ih =>
    intro op cn gn k o3 o4 ok i3 i4 hg l1 l2 hk
    rw [List.length_cons] at l1 l2
    have okx := ok x (by simp)
    have okr : ∀ y ∈ xs, OkDeed y := fun y hy => ok y (by simp [hy])
    refine And.intro i3 ?_
    (conv => whnf)
    refine And.intro i4 ?_
    ((repeat (first | ((conv => whnf); refine And.intro (by first | exact rfl | exact trivial | exact ⟨rfl, rfl⟩ | exact ⟨rfl, strs_scal _⟩ | exact ⟨trivial, trivial⟩ | assumption | decide | exact Nat.le_of_ble_eq_true rfl | omega) ?_) | ((conv => whnf); first | rw [h1]))); try (conv => whnf))
    refine ⟨x, rfl, okx, fun _ => rfl, ?_⟩
    cases hd : deedP x with
    | none =>
      ((repeat ((conv => whnf); refine And.intro (by first | exact rfl | exact trivial | exact ⟨rfl, rfl⟩ | exact ⟨rfl, strs_scal _⟩ | exact ⟨trivial, trivial⟩ | assumption | decide | exact Nat.le_of_ble_eq_true rfl | omega) ?_)); try (conv => whnf))
      exact (hk _ rfl).2 k (by unfold chk; rw [hd])
    | some d =>
      have hc : chk op cn k (x :: xs) = chkD op cn k d fun op' cn' => chk op' cn' (k + 1) xs := by rw [chk, hd]
      rw [hc] at hk
      obtain ⟨okd, is⟩ := deedP_ok hd
      have lo : (op.map D.str).length < sizeLine := by rw [List.length_map]; omega
      have lg : (gn.map D.str).length < sizeLine := by rw [List.length_map]; omega
      have lo0 : (op.map D.str).length + 0 ≤ sizeLine := by omega
      have lg0 : (gn.map D.str).length + 0 ≤ sizeLine := by omega
      have lo1 : (op.map D.str).length + 1 ≤ sizeLine := by omega
      have lg1 : (gn.map D.str).length + 1 ≤ sizeLine := by omega
      rcases is with rfl | rfl
      · cases d with
        | op m a =>
          ((repeat ((conv => whnf); refine And.intro (by first | exact rfl | exact trivial | exact ⟨rfl, rfl⟩ | exact ⟨rfl, strs_scal _⟩ | exact ⟨trivial, trivial⟩ | assumption | decide | exact Nat.le_of_ble_eq_true rfl | omega) ?_)); try (conv => whnf))
          rw [show inD (R.fz (D.str m)).d (op.map D.str) = decide (m ∈ op) from inD_strs _ _]
          by_cases q : m ∈ op
          · rw [decide_eq_true q]
            ((repeat ((conv => whnf); refine And.intro (by first | exact rfl | exact trivial | exact ⟨rfl, rfl⟩ | exact ⟨rfl, strs_scal _⟩ | exact ⟨trivial, trivial⟩ | assumption | decide | exact Nat.le_of_ble_eq_true rfl | omega) ?_)); try (conv => whnf))
            exact (hk _ rfl).2 k (if_pos q)
          · rw [decide_eq_false q]
            ((repeat ((conv => whnf); refine And.intro (by first | exact rfl | exact trivial | exact ⟨rfl, rfl⟩ | exact ⟨rfl, strs_scal _⟩ | exact ⟨trivial, trivial⟩ | assumption | decide | exact Nat.le_of_ble_eq_true rfl | omega) ?_)); try (conv => whnf))
            have e : ∀ f, chkD op cn k (.op m a) f = f (op ++ [m]) (cn ++ [m]) := fun f => if_neg q
            rw [e] at hk
            have := ih (op ++ [m]) (cn ++ [m]) gn (k + 1) (some (.fz (.int k))) (some (.fz (.tup (Deed.op m a).ds))) okr rfl rfl (hg.op q) (by rw [List.length_append, List.length_singleton]; omega) (by omega) hk
            rw [List.map_append, ← List.append_nil (gn.map D.str)] at this
            (conv => whnf)
            refine And.intro ⟨by decide, by decide, Nat.le_of_ble_eq_true rfl⟩ ?_
            (conv => whnf)
            refine And.intro lo1 ?_
            (conv => whnf)
            refine And.intro (Nat.le_of_ble_eq_true rfl) ?_
            (conv => whnf)
            refine And.intro ⟨by decide, by decide, Nat.le_of_ble_eq_true rfl⟩ ?_
            (conv => whnf)
            refine And.intro lg0 ?_
            (conv => whnf)
            exact this
        | back m =>
          ((repeat ((conv => whnf); refine And.intro (by first | exact rfl | exact trivial | exact ⟨rfl, rfl⟩ | exact ⟨rfl, strs_scal _⟩ | exact ⟨trivial, trivial⟩ | assumption | decide | exact Nat.le_of_ble_eq_true rfl | omega) ?_)); try (conv => whnf))
          rw [show inD (R.fz (D.str m)).d (op.map D.str) = decide (m ∈ op) from inD_strs _ _]
          have bad : m ∉ cn → ∀ s, S.c s = c → n.rt (.fz (.int (k : Int))) s := fun q s hs => (hk s hs).2 k (if_neg q)
          by_cases q1 : m ∈ op
          · rw [decide_eq_true q1]
            ((repeat ((conv => whnf); refine And.intro (by first | exact rfl | exact trivial | exact ⟨rfl, rfl⟩ | exact ⟨rfl, strs_scal _⟩ | exact ⟨trivial, trivial⟩ | assumption | decide | exact Nat.le_of_ble_eq_true rfl | omega) ?_)); try (conv => whnf))
            rw [show inD (R.fz (D.str m)).d (gn.map D.str) = decide (m ∈ gn) from inD_strs _ _]
            by_cases q2 : m ∈ gn
            · rw [decide_eq_true q2]
              ((repeat ((conv => whnf); refine And.intro (by first | exact rfl | exact trivial | exact ⟨rfl, rfl⟩ | exact ⟨rfl, strs_scal _⟩ | exact ⟨trivial, trivial⟩ | assumption | decide | exact Nat.le_of_ble_eq_true rfl | omega) ?_)); try (conv => whnf))
              exact bad (fun h => ((hg.cn m).mp h).2 q2) _ rfl
            · rw [decide_eq_false q2]
              ((repeat ((conv => whnf); refine And.intro (by first | exact rfl | exact trivial | exact ⟨rfl, rfl⟩ | exact ⟨rfl, strs_scal _⟩ | exact ⟨trivial, trivial⟩ | assumption | decide | exact Nat.le_of_ble_eq_true rfl | omega) ?_)); try (conv => whnf))
              have q : m ∈ cn := (hg.cn m).mpr ⟨q1, q2⟩
              have e : ∀ f, chkD op cn k (.back m) f = f op (cn.erase m) := fun f => if_pos q
              rw [e] at hk
              have := ih op (cn.erase m) (gn ++ [m]) (k + 1) (some (.fz (.int k))) (some (.fz (.tup (Deed.back m).ds))) okr rfl rfl (hg.back q) (by omega) (by rw [List.length_append, List.length_singleton]; omega) hk
              rw [List.map_append, ← List.append_nil (op.map D.str)] at this
              (conv => whnf)
              refine And.intro ⟨by decide, by decide, Nat.le_of_ble_eq_true rfl⟩ ?_
              (conv => whnf)
              refine And.intro lo0 ?_
              (conv => whnf)
              refine And.intro (Nat.le_of_ble_eq_true rfl) ?_
              (conv => whnf)
              refine And.intro ⟨by decide, by decide, Nat.le_of_ble_eq_true rfl⟩ ?_
              (conv => whnf)
              refine And.intro lg1 ?_
              (conv => whnf)
              exact this
          · rw [decide_eq_false q1]
            ((repeat ((conv => whnf); refine And.intro (by first | exact rfl | exact trivial | exact ⟨rfl, rfl⟩ | exact ⟨rfl, strs_scal _⟩ | exact ⟨trivial, trivial⟩ | assumption | decide | exact Nat.le_of_ble_eq_true rfl | omega) ?_)); try (conv => whnf))
            exact bad (fun h => q1 ((hg.cn m).mp h).1) _ rfl
        | days a =>
          have := ih op cn gn (k + 1) (some (.fz (.int k))) (some (.fz (.tup (Deed.days a).ds))) okr rfl rfl hg (by omega) (by omega) hk
          rw [← List.append_nil (op.map D.str), ← List.append_nil (gn.map D.str)] at this
          ((repeat ((conv => whnf); refine And.intro (by first | exact rfl | exact trivial | exact ⟨rfl, rfl⟩ | exact ⟨rfl, strs_scal _⟩ | exact ⟨trivial, trivial⟩ | assumption | decide | exact Nat.le_of_ble_eq_true rfl | omega) ?_)); try (conv => whnf))
          refine And.intro ⟨by decide, by decide, Nat.le_of_ble_eq_true rfl⟩ ?_
          (conv => whnf)
          refine And.intro lo0 ?_
          (conv => whnf)
          refine And.intro (Nat.le_of_ble_eq_true rfl) ?_
          (conv => whnf)
          refine And.intro ⟨by decide, by decide, Nat.le_of_ble_eq_true rfl⟩ ?_
          (conv => whnf)
          refine And.intro lg0 ?_
          (conv => whnf)
          exact this
        | pause a =>
          have := ih op cn gn (k + 1) (some (.fz (.int k))) (some (.fz (.tup (Deed.pause a).ds))) okr rfl rfl hg (by omega) (by omega) hk
          rw [← List.append_nil (op.map D.str), ← List.append_nil (gn.map D.str)] at this
          ((repeat ((conv => whnf); refine And.intro (by first | exact rfl | exact trivial | exact ⟨rfl, rfl⟩ | exact ⟨rfl, strs_scal _⟩ | exact ⟨trivial, trivial⟩ | assumption | decide | exact Nat.le_of_ble_eq_true rfl | omega) ?_)); try (conv => whnf))
          refine And.intro ⟨by decide, by decide, Nat.le_of_ble_eq_true rfl⟩ ?_
          (conv => whnf)
          refine And.intro lo0 ?_
          (conv => whnf)
          refine And.intro (Nat.le_of_ble_eq_true rfl) ?_
          (conv => whnf)
          refine And.intro ⟨by decide, by decide, Nat.le_of_ble_eq_true rfl⟩ ?_
          (conv => whnf)
          refine And.intro lg0 ?_
          (conv => whnf)
          exact this
      · cases d with
        | op m a =>
          ((repeat ((conv => whnf); refine And.intro (by first | exact rfl | exact trivial | exact ⟨rfl, rfl⟩ | exact ⟨rfl, strs_scal _⟩ | exact ⟨trivial, trivial⟩ | assumption | decide | exact Nat.le_of_ble_eq_true rfl | omega) ?_)); try (conv => whnf))
          rw [show inD (R.fz (D.str m)).d (op.map D.str) = decide (m ∈ op) from inD_strs _ _]
          by_cases q : m ∈ op
          · rw [decide_eq_true q]
            ((repeat ((conv => whnf); refine And.intro (by first | exact rfl | exact trivial | exact ⟨rfl, rfl⟩ | exact ⟨rfl, strs_scal _⟩ | exact ⟨trivial, trivial⟩ | assumption | decide | exact Nat.le_of_ble_eq_true rfl | omega) ?_)); try (conv => whnf))
            exact (hk _ rfl).2 k (if_pos q)
          · rw [decide_eq_false q]
            ((repeat ((conv => whnf); refine And.intro (by first | exact rfl | exact trivial | exact ⟨rfl, rfl⟩ | exact ⟨rfl, strs_scal _⟩ | exact ⟨trivial, trivial⟩ | assumption | decide | exact Nat.le_of_ble_eq_true rfl | omega) ?_)); try (conv => whnf))
            have e : ∀ f, chkD op cn k (.op m a) f = f (op ++ [m]) (cn ++ [m]) := fun f => if_neg q
            rw [e] at hk
            have := ih (op ++ [m]) (cn ++ [m]) gn (k + 1) (some (.fz (.int k))) (some (.fz (.lst (Deed.op m a).ds))) okr rfl rfl (hg.op q) (by rw [List.length_append, List.length_singleton]; omega) (by omega) hk
            rw [List.map_append, ← List.append_nil (gn.map D.str)] at this
            (conv => whnf)
            refine And.intro ⟨by decide, by decide, Nat.le_of_ble_eq_true rfl⟩ ?_
            (conv => whnf)
            refine And.intro lo1 ?_
            (conv => whnf)
            refine And.intro (Nat.le_of_ble_eq_true rfl) ?_
            (conv => whnf)
            refine And.intro ⟨by decide, by decide, Nat.le_of_ble_eq_true rfl⟩ ?_
            (conv => whnf)
            refine And.intro lg0 ?_
            (conv => whnf)
            exact this
        | back m =>
          ((repeat ((conv => whnf); refine And.intro (by first | exact rfl | exact trivial | exact ⟨rfl, rfl⟩ | exact ⟨rfl, strs_scal _⟩ | exact ⟨trivial, trivial⟩ | assumption | decide | exact Nat.le_of_ble_eq_true rfl | omega) ?_)); try (conv => whnf))
          rw [show inD (R.fz (D.str m)).d (op.map D.str) = decide (m ∈ op) from inD_strs _ _]
          have bad : m ∉ cn → ∀ s, S.c s = c → n.rt (.fz (.int (k : Int))) s := fun q s hs => (hk s hs).2 k (if_neg q)
          by_cases q1 : m ∈ op
          · rw [decide_eq_true q1]
            ((repeat ((conv => whnf); refine And.intro (by first | exact rfl | exact trivial | exact ⟨rfl, rfl⟩ | exact ⟨rfl, strs_scal _⟩ | exact ⟨trivial, trivial⟩ | assumption | decide | exact Nat.le_of_ble_eq_true rfl | omega) ?_)); try (conv => whnf))
            rw [show inD (R.fz (D.str m)).d (gn.map D.str) = decide (m ∈ gn) from inD_strs _ _]
            by_cases q2 : m ∈ gn
            · rw [decide_eq_true q2]
              ((repeat ((conv => whnf); refine And.intro (by first | exact rfl | exact trivial | exact ⟨rfl, rfl⟩ | exact ⟨rfl, strs_scal _⟩ | exact ⟨trivial, trivial⟩ | assumption | decide | exact Nat.le_of_ble_eq_true rfl | omega) ?_)); try (conv => whnf))
              exact bad (fun h => ((hg.cn m).mp h).2 q2) _ rfl
            · rw [decide_eq_false q2]
              ((repeat ((conv => whnf); refine And.intro (by first | exact rfl | exact trivial | exact ⟨rfl, rfl⟩ | exact ⟨rfl, strs_scal _⟩ | exact ⟨trivial, trivial⟩ | assumption | decide | exact Nat.le_of_ble_eq_true rfl | omega) ?_)); try (conv => whnf))
              have q : m ∈ cn := (hg.cn m).mpr ⟨q1, q2⟩
              have e : ∀ f, chkD op cn k (.back m) f = f op (cn.erase m) := fun f => if_pos q
              rw [e] at hk
              have := ih op (cn.erase m) (gn ++ [m]) (k + 1) (some (.fz (.int k))) (some (.fz (.lst (Deed.back m).ds))) okr rfl rfl (hg.back q) (by omega) (by rw [List.length_append, List.length_singleton]; omega) hk
              rw [List.map_append, ← List.append_nil (op.map D.str)] at this
              (conv => whnf)
              refine And.intro ⟨by decide, by decide, Nat.le_of_ble_eq_true rfl⟩ ?_
              (conv => whnf)
              refine And.intro lo0 ?_
              (conv => whnf)
              refine And.intro (Nat.le_of_ble_eq_true rfl) ?_
              (conv => whnf)
              refine And.intro ⟨by decide, by decide, Nat.le_of_ble_eq_true rfl⟩ ?_
              (conv => whnf)
              refine And.intro lg1 ?_
              (conv => whnf)
              exact this
          · rw [decide_eq_false q1]
            ((repeat ((conv => whnf); refine And.intro (by first | exact rfl | exact trivial | exact ⟨rfl, rfl⟩ | exact ⟨rfl, strs_scal _⟩ | exact ⟨trivial, trivial⟩ | assumption | decide | exact Nat.le_of_ble_eq_true rfl | omega) ?_)); try (conv => whnf))
            exact bad (fun h => q1 ((hg.cn m).mp h).1) _ rfl
        | days a =>
          have := ih op cn gn (k + 1) (some (.fz (.int k))) (some (.fz (.lst (Deed.days a).ds))) okr rfl rfl hg (by omega) (by omega) hk
          rw [← List.append_nil (op.map D.str), ← List.append_nil (gn.map D.str)] at this
          ((repeat ((conv => whnf); refine And.intro (by first | exact rfl | exact trivial | exact ⟨rfl, rfl⟩ | exact ⟨rfl, strs_scal _⟩ | exact ⟨trivial, trivial⟩ | assumption | decide | exact Nat.le_of_ble_eq_true rfl | omega) ?_)); try (conv => whnf))
          refine And.intro ⟨by decide, by decide, Nat.le_of_ble_eq_true rfl⟩ ?_
          (conv => whnf)
          refine And.intro lo0 ?_
          (conv => whnf)
          refine And.intro (Nat.le_of_ble_eq_true rfl) ?_
          (conv => whnf)
          refine And.intro ⟨by decide, by decide, Nat.le_of_ble_eq_true rfl⟩ ?_
          (conv => whnf)
          refine And.intro lg0 ?_
          (conv => whnf)
          exact this
        | pause a =>
          have := ih op cn gn (k + 1) (some (.fz (.int k))) (some (.fz (.lst (Deed.pause a).ds))) okr rfl rfl hg (by omega) (by omega) hk
          rw [← List.append_nil (op.map D.str), ← List.append_nil (gn.map D.str)] at this
          ((repeat ((conv => whnf); refine And.intro (by first | exact rfl | exact trivial | exact ⟨rfl, rfl⟩ | exact ⟨rfl, strs_scal _⟩ | exact ⟨trivial, trivial⟩ | assumption | decide | exact Nat.le_of_ble_eq_true rfl | omega) ?_)); try (conv => whnf))
          refine And.intro ⟨by decide, by decide, Nat.le_of_ble_eq_true rfl⟩ ?_
          (conv => whnf)
          refine And.intro lo0 ?_
          (conv => whnf)
          refine And.intro (Nat.le_of_ble_eq_true rfl) ?_
          (conv => whnf)
          refine And.intro ⟨by decide, by decide, Nat.le_of_ble_eq_true rfl⟩ ?_
          (conv => whnf)
          refine And.intro lg0 ?_
          (conv => whnf)
          exact this
theorem p_firstBad {Γ : Env} (h1 : Γ.fn "_law_is_deed" = some (.pl conIsDeedL false [])) : Impl Γ 5 conFirstBad c__law_first_bad := by
  intro as c K h
  obtain ⟨xs, rfl, ok, hl, hk⟩ := h
  ((repeat ((conv => whnf); refine And.intro (by first | exact rfl | exact trivial | exact ⟨rfl, rfl⟩ | exact ⟨rfl, strs_scal _⟩ | exact ⟨trivial, trivial⟩ | assumption | decide | exact Nat.le_of_ble_eq_true rfl | omega) ?_)); try (conv => whnf))
  refine first_go h1 xs [] [] [] 0 none none ok rfl rfl ⟨List.nodup_nil, by simp, by simp⟩ (by simpa using hl) (by simpa using hl) fun s hs => ⟨fun h => ?_, fun i h => ?_⟩
  · rw [h] at hk
    (conv => whnf)
    rw [show s.c = c from hs]
    exact hk
  · rw [h] at hk
    show K _ s.c
    rw [show s.c = c from hs]
    exact hk
end PP
set_option Elab.async false
set_option linter.all false
set_option maxRecDepth 100000
set_option maxHeartbeats 4000000
namespace PP
open PySem L2
def combs : Nat → List Str → List (List Str)
  | 0, _ => [[]]
  | _ + 1, [] => []
  | k + 1, m :: ms => (combs k ms).map (m :: ·) ++ combs (k + 1) ms
/-- the place behind the last mark of a part -/
def behind (ms p : List Str) : Nat := match p.getLast? with
  | none => 0
  | some m => ms.idxOf m + 1
def extP (ms p : List Str) : List (List Str) := (ms.drop (behind ms p)).map fun m => p ++ [m]
theorem combs_sub : ∀ {k : Nat} {ms p : List Str}, p ∈ combs k ms → p.Sublist ms ∧ p.length = k
  | 0, ms, p, h => by
    have h : p ∈ ([[]] : List (List Str)) := by cases ms <;> exact h
    rw [List.mem_singleton.mp h]; exact ⟨List.nil_sublist _, rfl⟩
  | k + 1, [], p, h => by cases h
  | k + 1, m :: ms, p, h => by
    rcases List.mem_append.mp h with h | h
    · obtain ⟨q, hq, rfl⟩ := List.mem_map.mp h
      obtain ⟨h1, h2⟩ := combs_sub hq
      exact ⟨h1.cons₂ m, by rw [List.length_cons, h2]⟩
    · obtain ⟨h1, h2⟩ := combs_sub h
      exact ⟨h1.cons m, h2⟩
theorem mem_combs : ∀ {ms p : List Str}, p.Sublist ms → p ∈ combs p.length ms
  | ms, [], _ => by
    cases ms <;> exact List.mem_singleton.mpr rfl
  | [], m :: p, h => by cases h
  | x :: ms, m :: p, h => by
    cases h with
    | cons _ h => exact List.mem_append_right _ (mem_combs (p := m :: p) h)
    | cons_cons _ h => exact List.mem_append_left _ (List.mem_map.mpr ⟨p, mem_combs h, rfl⟩)
def upTo (ms : List Str) : Nat → List (List Str)
  | 0 => combs 0 ms
  | k + 1 => upTo ms k ++ combs (k + 1) ms
def partsOf (ms : List Str) : List (List Str) := upTo ms ms.length
end PP
set_option Elab.async false
set_option linter.all false
set_option maxRecDepth 100000
set_option maxHeartbeats 4000000
namespace PP
open PySem L2
def ltL : List Str → List Str → Bool
  | _, [] => false
  | [], _ :: _ => true
  | x :: a, y :: b => if x = y then ltL a b else decide (x.cps.toList < y.cps.toList)
def ltR (a b : List Str) : Bool := if a.length = b.length then ltL a b else decide (a.length < b.length)
theorem ltL_asym : ∀ {a b : List Str}, ltL a b = true → ltL b a = false
  | [], [], h => by cases h
  | [], _ :: _, _ => rfl
  | _ :: _, [], h => by cases h
  | x :: a, y :: b, h => by
    unfold ltL at h ⊢
    by_cases e : x = y
    · rw [if_pos e] at h
      rw [if_pos e.symm]; exact ltL_asym h
    · rw [if_neg e] at h
      rw [if_neg (Ne.symm e)]
      have h := of_decide_eq_true h
      exact decide_eq_false fun k => List.lt_irrefl _ (List.lt_trans h k)
theorem ltR_asym {a b : List Str} (h : ltR a b = true) : ltR b a = false := by
  unfold ltR at h ⊢
  by_cases e : a.length = b.length
  · rw [if_pos e] at h
    rw [if_pos e.symm]; exact ltL_asym h
  · rw [if_neg e] at h
    rw [if_neg (Ne.symm e)]
    have := of_decide_eq_true h
    exact decide_eq_false (by omega)
theorem combs_lt : ∀ (k : Nat) (ms : List Str), ms.Pairwise ltS → (combs k ms).Pairwise fun a b => ltL a b = true
  | 0, ms, _ => by
    have : combs 0 ms = [[]] := by cases ms <;> rfl
    rw [this]; exact List.pairwise_singleton _ _
  | k + 1, [], _ => List.Pairwise.nil
  | k + 1, m :: ms, h => by
    obtain ⟨h1, h2⟩ := List.pairwise_cons.mp h
    show ((combs k ms).map (m :: ·) ++ combs (k + 1) ms).Pairwise _
    rw [List.pairwise_append]
    refine ⟨?_, combs_lt (k + 1) ms h2, fun a ha b hb => ?_⟩
    · rw [List.pairwise_map]
      refine (combs_lt k ms h2).imp fun {a b} q => ?_
      show (if m = m then ltL a b else _) = true
      rw [if_pos rfl]; exact q
    · obtain ⟨p, hp, rfl⟩ := List.mem_map.mp ha
      obtain ⟨q1, q2⟩ := combs_sub hb
      rcases b with _ | ⟨x, b⟩
      · cases q2
      · have hx : x ∈ ms := q1.subset (by simp)
        have lt := h1 x hx
        show (if m = x then ltL p b else decide (m.cps.toList < x.cps.toList)) = true
        rw [if_neg fun e : m = x => ltS_irrefl x (by rw [e] at lt; exact lt)]
        exact decide_eq_true lt
theorem upTo_mem {ms p : List Str} : ∀ {k : Nat}, p ∈ upTo ms k ↔ p.Sublist ms ∧ p.length ≤ k
  | 0 => by
    have : combs 0 ms = [[]] := by cases ms <;> rfl
    show p ∈ combs 0 ms ↔ _
    rw [this, List.mem_singleton]
    constructor
    · rintro rfl; exact ⟨List.nil_sublist _, Nat.le_refl _⟩
    · rintro ⟨_, h⟩; exact List.eq_nil_of_length_eq_zero (by omega)
  | k + 1 => by
    show p ∈ upTo ms k ++ combs (k + 1) ms ↔ _
    rw [List.mem_append, upTo_mem (k := k)]
    constructor
    · rintro (⟨h1, h2⟩ | h)
      · exact ⟨h1, by omega⟩
      · obtain ⟨h1, h2⟩ := combs_sub h
        exact ⟨h1, by omega⟩
    · rintro ⟨h1, h2⟩
      by_cases e : p.length = k + 1
      · exact .inr (by rw [← e]; exact mem_combs h1)
      · exact .inl ⟨h1, by omega⟩
theorem upTo_lt {ms : List Str} (h : ms.Pairwise ltS) : ∀ k : Nat, (upTo ms k).Pairwise fun a b => ltR a b = true
  | 0 => (combs_lt 0 ms h).imp_of_mem fun {a b} ha hb q => by
    unfold ltR
    rw [if_pos (by rw [(combs_sub ha).2, (combs_sub hb).2])]; exact q
  | k + 1 => by
    show (upTo ms k ++ combs (k + 1) ms).Pairwise _
    rw [List.pairwise_append]
    refine ⟨upTo_lt h k, (combs_lt (k + 1) ms h).imp_of_mem fun {a b} ha hb q => ?_, fun a ha b hb => ?_⟩
    · unfold ltR
      rw [if_pos (by rw [(combs_sub ha).2, (combs_sub hb).2])]; exact q
    · have h1 := (upTo_mem.mp ha).2
      have h2 := (combs_sub hb).2
      unfold ltR
      rw [if_neg (by omega)]
      exact decide_eq_true (by omega)
theorem parts_mem {ms p : List Str} : p ∈ partsOf ms ↔ p.Sublist ms := by
  unfold partsOf
  rw [upTo_mem]
  exact ⟨fun h => h.1, fun h => ⟨h, h.length_le⟩⟩
end PP
set_option Elab.async false
set_option linter.all false
set_option maxRecDepth 100000
set_option maxHeartbeats 4000000
namespace PP
open PySem L2
theorem pw_of_zip {α : Type} {R : α → α → Prop} (tr : ∀ a b c, R a b → R b c → R a c) : ∀ {l : List α}, (∀ p ∈ l.zip l.tail, R p.1 p.2) → l.Pairwise R
  | [], _ => List.Pairwise.nil
  | [a], _ => List.pairwise_singleton _ _
  | a :: b :: l, h => by
    have ih := pw_of_zip tr (l := b :: l) fun p hp => h p (List.mem_cons_of_mem _ hp)
    have h1 : R a b := h (a, b) List.mem_cons_self
    refine List.pairwise_cons.mpr ⟨fun c hc => ?_, ih⟩
    rcases List.mem_cons.mp hc with rfl | hc
    · exact h1
    · exact tr a b c h1 ((List.pairwise_cons.mp ih).1 c hc)
structure FormS (ms : List Str) (w : Str → Int) (bs : List (List Str × Int)) : Prop where
  ok : FormOk ms w bs
  w0 : ∀ m, 0 ≤ w m
  srt : ms.Pairwise ltS
  bsr : ∀ b ∈ bs, b.1.Pairwise ltS
namespace FormS
variable {ms : List Str} {w : Str → Int} {bs : List (List Str × Int)} (F : FormS ms w bs)
include F
/-- what the marks of a bar have together -/
theorem sumO_nest {b d : List Str × Int} (hb : b ∈ bs) (hd : d ∈ bs) (h : ∀ m ∈ d.1, m ∈ b.1) : sumO w b.1 (inP d.1) = WS w ms (inP b.1) - WS w ms (inP d.1) := by
  rw [sumO_WS F.ok.nd (F.ok.bnd b hb).1 (F.ok.sub b hb)]
  have s := WS_sym w (inP b.1) (inP d.1) ms
  have z : WS w ms (dif (inP d.1) (inP b.1)) = 0 := WS_zero fun x _ hx => by
    exfalso
    have hx : x ∈ d.1 ∧ x ∉ b.1 := by simpa [dif, inP] using hx
    exact hx.2 (h x hx.1)
  omega
def Rel (ms : List Str) (w : Str → Int) (b d : List Str × Int) : Prop := (∀ m ∈ d.1, m ∈ b.1) ∧ d.1.length < b.1.length ∧ d.2 < b.2 ∧ b.2 - WS w ms (inP b.1) < d.2 - WS w ms (inP d.1)
theorem rel : bs.Pairwise (Rel ms w) := by
  refine pw_of_zip (fun a b c h1 h2 => ⟨fun m hm => h1.1 m (h2.1 m hm), Nat.lt_trans h2.2.1 h1.2.1, Int.lt_trans h2.2.2.1 h1.2.2.1, Int.lt_trans h1.2.2.2 h2.2.2.2⟩) fun p hp => ?_
  obtain ⟨q1, q2, q3, q4⟩ := F.ok.pr p hp
  have m1 : p.1 ∈ bs := (List.of_mem_zip (a := p.1) (b := p.2) hp).1
  have m2 : p.2 ∈ bs := List.mem_of_mem_tail (List.of_mem_zip (a := p.1) (b := p.2) hp).2
  have sub : ∀ m ∈ p.2.1, m ∈ p.1.1 := fun m hm => Classical.byContradiction fun hn => by
    rw [sumO_WS F.ok.nd (F.ok.bnd _ m2).1 (F.ok.sub _ m2)] at q2
    have := WS_pos (w := w) (Q := dif (inP p.2.1) (inP p.1.1)) (x := m) (A := ms) (fun x _ => F.w0 x) (F.ok.sub _ m2 m hm) (by simp [dif, inP, hm, hn]) (F.ok.mks m (F.ok.sub _ m2 m hm)).2
    omega
  refine ⟨sub, q1, q3, ?_⟩
  rw [F.sumO_nest m1 m2 sub] at q4
  omega
theorem total {b d : List Str × Int} (hb : b ∈ bs) (hd : d ∈ bs) : b = d ∨ Rel ms w b d ∨ Rel ms w d b := pw_total F.rel hb hd
theorem nest : Nest bs := F.rel.imp fun h => h.1
theorem first : (innerOf bs).1 = ms := by
  rcases F.ok.hd with ⟨h1, h2⟩ | ⟨b, r, h1, h2⟩
  · rw [h2, h1]; rfl
  · have hb : b ∈ bs := by rw [h1]; simp
    rw [h1]
    exact (sub_sorted (F.bsr b hb) F.srt (F.ok.sub b hb)).eq_of_length h2
/-- what is told of a bar's own set is its number -/
theorem tell_bar {b : List Str × Int} (hb : b ∈ bs) : tellB w (inP b.1) bs = b.2 := by
  have own : ∀ c : List Str × Int, sumO w c.1 (inP c.1) = 0 := fun c => by
    unfold sumO
    rw [List.filter_eq_nil_iff.mpr fun x hx => by simp [inP, hx]]; rfl
  obtain ⟨t1, t2⟩ := tellB_ge w (inP b.1) bs
  have h1 := t2 b hb
  rw [own] at h1
  have pos := (F.ok.bnd b hb).2.2
  rcases tellB_at w (inP b.1) bs with q | ⟨d, hd, q⟩
  · omega
  · have : d.2 - sumO w d.1 (inP b.1) ≤ b.2 := by
      rcases F.total hb hd with e | e | e
      · subst e; rw [own]; omega
      · have z : sumO w d.1 (inP b.1) = 0 := by
          unfold sumO
          rw [List.filter_eq_nil_iff.mpr fun x hx => by simp [inP, e.1 x hx]]; rfl
        rw [z]
        have := e.2.2.1
        omega
      · rw [F.sumO_nest hd hb e.1]
        have := e.2.2.2
        omega
    omega
theorem blen : ∀ b ∈ bs, b.1.length ≤ 60 := fun b hb => Nat.le_trans (nodup_len _ _ (F.ok.bnd b hb).1 (F.ok.sub b hb)) F.ok.len
theorem opn : ((leastB w bs).flatMap opens).Nodup ∧ ∀ m, m ∈ (leastB w bs).flatMap opens ↔ m ∈ ms := by
  have q := least_opens w bs F.nest fun b hb => (F.ok.bnd b hb).1
  rw [F.first] at q
  exact q
theorem valid : ValidRow (leastB w bs) := by
  have h1 := least_len (w := w) F.blen
  have h2 := F.ok.bl
  exact valid_of (good_bare F.opn.1 (least_backs _ _)) (least_ok fun b hb m hm => F.ok.mks m (F.ok.sub b hb m hm)) (by omega)
theorem marks (m : Str) : m ∈ marksOf (leastB w bs) ↔ m ∈ ms := by
  rw [(count_marks _ F.valid.vd).1, least_backs, List.mem_filter, F.opn.2]
  simp
theorem sumO_on {Q R : Str → Bool} {c : List Str} (h : ∀ m ∈ c, Q m = R m) : sumO w c Q = sumO w c R := by
  unfold sumO
  rw [List.filter_congr fun m hm => by rw [h m hm]]
theorem LA_tell (Q : Str → Bool) : LA (leastB w bs) Q = tellB w Q bs := by
  have eQ : ∀ m ∈ ms, (Q m && decide (m ∈ marksOf (leastB w bs))) = Q m := fun m hm => by rw [decide_eq_true ((F.marks m).mpr hm), Bool.and_true]
  rw [LA_gl F.valid]
  have g := gl_least (w := w) F.w0 (Q := fun m => Q m && decide (m ∈ marksOf (leastB w bs))) bs 0 (Int.le_refl 0) F.nest (fun b hb => (F.ok.bnd b hb).1) (fun p hp => by have := (F.ok.pr p hp).2.2.2; omega) F.ok.lst (fun b hb => by have := (F.ok.bnd b hb).2.2; omega)
  have et : ∀ l : List (List Str × Int), (∀ b ∈ l, b ∈ bs) → tellB w (fun m => Q m && decide (m ∈ marksOf (leastB w bs))) l = tellB w Q l := fun l => by
    induction l with
    | nil => intro _; rfl
    | cons b l ih =>
      intro h
      show max (tellB _ _ l) _ = max (tellB _ _ l) _
      rw [ih fun c hc => h c (by simp [hc]), F.sumO_on fun m hm => eQ m (F.ok.sub b (h b (by simp)) m hm)]
  rw [g, et bs fun b h => h]
  have t := tellB_ge w Q bs
  cases hbs : bs with
  | nil => rfl
  | cons b r =>
    have hb : b ∈ bs := by rw [hbs]; simp
    have := t.2 b hb
    rw [hbs] at this
    show max _ (0 + b.2 - sumO w b.1 fun m => Q m && decide (m ∈ marksOf (leastB w (b :: r)))) = _
    have e := F.sumO_on (Q := fun m => Q m && decide (m ∈ marksOf (leastB w bs))) (R := Q) (c := b.1) fun m hm => eQ m (F.ok.sub b hb m hm)
    rw [hbs] at e
    rw [e]
    omega
theorem w_eq {m : Str} (hm : m ∈ ms) : wL (LA (leastB w bs)) m = w m := by
  unfold wL
  rw [F.LA_tell, F.LA_tell]
  rcases F.ok.hd with ⟨h1, _⟩ | ⟨b0, r, h1, h2⟩
  · rw [h1] at hm; cases hm
  have hb0 : b0 ∈ bs := by rw [h1]; simp
  have e0 : b0.1 = ms := by
    have := F.first
    rw [h1] at this
    exact this
  have hall : tellB w (fun _ => true) bs = b0.2 := by
    have q := F.tell_bar hb0
    have t1 := tellB_ge w (fun _ => true) bs
    have z : ∀ c : List Str, sumO w c (fun _ => true) = 0 := fun c => by
      unfold sumO
      rw [List.filter_eq_nil_iff.mpr fun x hx => by simp]; rfl
    have h3 := t1.2 b0 hb0
    rw [z] at h3
    rcases tellB_at w (fun _ => true) bs with e | ⟨d, hd, e⟩
    · have := (F.ok.bnd b0 hb0).2.2; omega
    · rw [z] at e
      rcases F.total hb0 hd with k | k | k
      · subst k; omega
      · have := k.2.2.1; omega
      · have h4 := k.2.1
        rw [e0] at h4
        have := nodup_len _ _ (F.ok.bnd d hd).1 (F.ok.sub d hd)
        omega
  have one : ∀ {b : List Str × Int}, b ∈ bs → sumO w b.1 (fun x => decide (x ≠ m)) = if m ∈ b.1 then w m else 0 := fun {b} hb => by
    unfold sumO
    have nd := (F.ok.bnd b hb).1
    by_cases h : m ∈ b.1
    · rw [if_pos h]
      have : (b.1.filter fun x => !decide (x ≠ m)).Perm [m] := (List.perm_ext_iff_of_nodup (nd.filter _) (by simp)).mpr fun x => by
        rw [List.mem_filter, List.mem_singleton]
        simp only [Bool.not_eq_true', decide_eq_false_iff_not, Decidable.not_not]
        exact ⟨fun q => q.2, fun q => ⟨q ▸ h, q⟩⟩
      rw [perm_sum this]
      simp
    · rw [if_neg h, List.filter_eq_nil_iff.mpr fun x hx => by
        have : x ≠ m := fun e => h (e ▸ hx)
        simp [this]]
      rfl
  have hm0 : m ∈ b0.1 := by rw [e0]; exact hm
  have hlo := F.ok.lo b0 r h1 m hm
  have hlow : ∀ l : List (List Str × Int), (∀ b ∈ l, b ∈ bs) → l.Pairwise (Rel ms w) → w m ≤ looseV b0.2 m l → ∀ d ∈ l, m ∉ d.1 → w m ≤ b0.2 - d.2 := fun l => by
    induction l with
    | nil => intro _ _ _ d hd; cases hd
    | cons b l ih =>
      intro hs hp h d hd hn
      obtain ⟨hp1, hp2⟩ := List.pairwise_cons.mp hp
      by_cases q : m ∈ b.1
      · have h : w m ≤ looseV b0.2 m l := by
          have : looseV b0.2 m (b :: l) = looseV b0.2 m l := if_pos q
          rw [this] at h; exact h
        rcases List.mem_cons.mp hd with rfl | hd
        · exact absurd q hn
        · exact ih (fun c hc => hs c (by simp [hc])) hp2 h d hd hn
      · have h : w m ≤ b0.2 - b.2 := by
          have : looseV b0.2 m (b :: l) = b0.2 - b.2 := if_neg q
          rw [this] at h; exact h
        rcases List.mem_cons.mp hd with rfl | hd
        · exact h
        · have := (hp1 d hd).2.2.1; omega
  have hle0 : ∀ l : List (List Str × Int), (∀ b ∈ l, b ∈ bs) → w m ≤ looseV b0.2 m l → w m ≤ b0.2 := fun l => by
    induction l with
    | nil => intro _ h; exact h
    | cons b l ih =>
      intro hs h
      by_cases q : m ∈ b.1
      · have : looseV b0.2 m (b :: l) = looseV b0.2 m l := if_pos q
        rw [this] at h
        exact ih (fun c hc => hs c (by simp [hc])) h
      · have : looseV b0.2 m (b :: l) = b0.2 - b.2 := if_neg q
        rw [this] at h
        have := (F.ok.bnd b (hs b (by simp))).2.2
        omega
  have hw0 := hle0 bs (fun b h => h) hlo
  have t := tellB_ge w (fun x => decide (x ≠ m)) bs
  have h5 := t.2 b0 hb0
  rw [one hb0, if_pos hm0] at h5
  have h6 : tellB w (fun x => decide (x ≠ m)) bs ≤ b0.2 - w m := by
    rcases tellB_at w (fun x => decide (x ≠ m)) bs with e | ⟨d, hd, e⟩
    · omega
    · rw [one hd] at e
      by_cases q : m ∈ d.1
      · rw [if_pos q] at e
        rcases F.total hb0 hd with k | k | k
        · subst k; omega
        · have := k.2.2.1; omega
        · have h4 := k.2.1
          rw [e0] at h4
          have := nodup_len _ _ (F.ok.bnd d hd).1 (F.ok.sub d hd)
          omega
      · rw [if_neg q] at e
        have := hlow bs (fun b h => h) F.rel hlo d hd q
        omega
  rw [hall]
  omega
theorem num {b : List Str × Int} (hb : b ∈ bs) : LA (leastB w bs) (inP b.1) = b.2 := by rw [F.LA_tell, F.tell_bar hb]
theorem WS_w (Q : Str → Bool) {c : List Str} (hc : c.Nodup) (sub : ∀ m ∈ c, m ∈ ms) : WS (wL (LA (leastB w bs))) (marksOf (leastB w bs)) (dif (inP c) Q) = sumO w c Q := by
  have e : sumO (wL (LA (leastB w bs))) c Q = WS (wL (LA (leastB w bs))) (marksOf (leastB w bs)) (dif (inP c) Q) := sumO_WS F.valid.good.nodup hc (fun m hm => (F.marks m).mpr (sub m hm)) Q
  rw [← e]
  unfold sumO
  rw [List.map_congr_left fun m hm => F.w_eq (sub m (List.mem_filter.mp hm).1)]
theorem ch : Ch (marksOf (leastB w bs)) (LA (leastB w bs)) (bs.map (·.1)) where
  lf := (chain_acc F.valid).lf
  sub := fun c hc m hm => by
    obtain ⟨b, hb, rfl⟩ := List.mem_map.mp hc
    have h := F.ok.sub b hb m hm
    exact ⟨(F.marks m).mpr h, by rw [F.w_eq h]; exact (F.ok.mks m h).2⟩
  srt := fun c hc => by
    obtain ⟨b, hb, rfl⟩ := List.mem_map.mp hc
    exact F.bsr b hb
  ne := fun c hc => by
    obtain ⟨b, hb, rfl⟩ := List.mem_map.mp hc
    exact (F.ok.bnd b hb).2.1
  nest := by
    rw [List.pairwise_map]
    exact F.rel.imp fun {a b} h => ⟨h.1, fun e => by have := h.2.1; rw [e] at this; omega⟩
  dom := fun P hP => by
    rw [F.LA_tell] at hP
    rcases tellB_at w P bs with e | ⟨b, hb, e⟩
    · omega
    · refine ⟨b.1, List.mem_map.mpr ⟨b, hb, rfl⟩, ?_⟩
      rw [F.WS_w P (F.ok.bnd b hb).1 (F.ok.sub b hb), F.num hb, F.LA_tell]
      omega
end FormS
end PP
set_option Elab.async false
set_option linter.all false
set_option maxRecDepth 100000
set_option maxHeartbeats 4000000
set_option Elab.async false
set_option linter.all false
set_option maxRecDepth 100000
set_option maxHeartbeats 4000000
set_option Elab.async false
set_option linter.all false
set_option maxRecDepth 100000
set_option maxHeartbeats 4000000
set_option Elab.async false
set_option linter.all false
set_option maxRecDepth 100000
set_option maxHeartbeats 4000000
set_option Elab.async false
set_option linter.all false
set_option maxRecDepth 100000
set_option maxHeartbeats 4000000
set_option Elab.async false
set_option linter.all false
set_option maxRecDepth 100000
set_option maxHeartbeats 4000000
namespace PP
open PySem L2
theorem find_first {ms : List Str} (hs : ms.Pairwise ltS) {f : List Str → Bool} {p0 : List Str} (h0 : p0.Sublist ms) (f0 : f p0 = true) (h : ∀ p, p.Sublist ms → f p = true → p = p0 ∨ ltR p0 p = true) : (partsOf ms).find? f = some p0 := by
  have pw : (partsOf ms).Pairwise fun a b => ltR a b = true := upTo_lt hs _
  cases e : (partsOf ms).find? f with
  | none => exact absurd f0 (by have := List.find?_eq_none.mp e p0 (parts_mem.mpr h0); exact this)
  | some q =>
    obtain ⟨fq, a, b, eab, hn⟩ := List.find?_eq_some_iff_append.mp e
    have hq : q ∈ partsOf ms := by rw [eab]; simp
    rcases h q (parts_mem.mp hq) fq with r | r
    · rw [r]
    · exfalso
      have h1 : p0 ∈ a ++ q :: b := by rw [← eab]; exact parts_mem.mpr h0
      rcases List.mem_append.mp h1 with k | k
      · have := hn p0 k
        rw [f0] at this; cases this
      · rcases List.mem_cons.mp k with k | k
        · rw [k] at r
          have := ltR_asym r
          rw [r] at this; cases this
        · rw [eab, List.pairwise_append] at pw
          have := (List.pairwise_cons.mp pw.2.1).1 p0 k
          have := ltR_asym this
          rw [r] at this; cases this
theorem take_first : ∀ {s p : List Str}, s.Pairwise ltS → p.Sublist s → p = s.take p.length ∨ ltL (s.take p.length) p = true
  | s, [], _, _ => .inl (by simp)
  | [], x :: p, _, h => by cases h
  | y :: s, x :: p, hs, h => by
    obtain ⟨h1, h2⟩ := List.pairwise_cons.mp hs
    rw [List.length_cons, List.take_succ_cons]
    cases h with
    | cons_cons _ h =>
      rcases take_first h2 h with e | e
      · exact .inl (by rw [← e])
      · refine .inr ?_
        unfold ltL
        rw [if_pos rfl]; exact e
    | cons _ h =>
      refine .inr ?_
      have lt := h1 x (h.subset (by simp))
      show (if y = x then ltL (s.take p.length) p else decide (y.cps.toList < x.cps.toList)) = true
      rw [if_neg fun e : y = x => ltS_irrefl x (by rw [e] at lt; exact lt)]
      exact decide_eq_true lt
def w3 : Str → Int := fun _ => 3
theorem sumO_w3 (c : List Str) (P : Str → Bool) : sumO w3 c P = 3 * ((c.filter fun m => !P m).length : Int) := by
  have : ∀ l : List Str, (l.map w3).sum = 3 * (l.length : Int) := fun l => by
    induction l with
    | nil => rfl
    | cons x l ih => rw [List.map_cons, List.sum_cons, ih, List.length_cons]; show 3 + _ = _; omega
  unfold sumO
  exact this _
theorem cut_len {a b : List Str} (na : a.Nodup) (nb : b.Nodup) (h : ∀ m ∈ b, m ∈ a) : (a.filter fun m => !decide (m ∈ b)).length + b.length = a.length := by
  have p1 : (a.filter fun m => decide (m ∈ b)).Perm b := (List.perm_ext_iff_of_nodup (na.filter _) nb).mpr fun x => by
    rw [List.mem_filter, decide_eq_true_eq]
    exact ⟨fun q => q.2, fun q => ⟨h x q, q⟩⟩
  have : ∀ l : List Str, (l.filter fun m => !decide (m ∈ b)).length + (l.filter fun m => decide (m ∈ b)).length = l.length := fun l => by
    induction l with
    | nil => rfl
    | cons x l ih =>
      by_cases q : x ∈ b
      · rw [List.filter_cons_of_neg (by simp [q]), List.filter_cons_of_pos (by simp [q]), List.length_cons, List.length_cons]; omega
      · rw [List.filter_cons_of_pos (by simp [q]), List.filter_cons_of_neg (by simp [q]), List.length_cons, List.length_cons]; omega
  have := this a
  rw [p1.length_eq] at this
  exact this
structure Tw (zs : List Str) : Prop where
  nd : zs.Nodup
  mks : ∀ m ∈ zs, MarkOk m
  len : zs.length = 12
def inn (zs : List Str) : List Str := sortS (zs.drop 4)
def bs12 (zs : List Str) (k n : Int) : List (List Str × Int) := [(sortS zs, k), (inn zs, n)]
namespace Tw
variable {zs : List Str} (T : Tw zs)
include T
theorem ind : (inn zs).Nodup := sortS_nodup (T.nd.sublist (List.drop_sublist _ _))
theorem alld : (sortS zs).Nodup := sortS_nodup T.nd
theorem isub : ∀ m ∈ inn zs, m ∈ sortS zs := fun m hm => (sortS_perm zs).mem_iff.mpr (List.mem_of_mem_drop ((sortS_perm _).mem_iff.mp hm))
theorem ilen : (inn zs).length = 8 := by
  unfold inn
  rw [(sortS_perm _).length_eq, List.length_drop, T.len]
theorem alen : (sortS zs).length = 12 := by rw [(sortS_perm _).length_eq, T.len]
theorem forms {k n : Int} (h1 : 10 ≤ n) (h2 : n ≤ 20) (h3 : n + 8 ≤ k) (h4 : k ≤ n + 9) : FormS (sortS zs) w3 (bs12 zs k n) := by
  have c1 := cut_len T.alld T.ind T.isub
  rw [T.alen, T.ilen] at c1
  have mkz : ∀ m ∈ sortS zs, MarkOk m := fun m hm => T.mks m ((sortS_perm zs).mem_iff.mp hm)
  have two : ∀ {b : List Str × Int}, b ∈ bs12 zs k n → b = (sortS zs, k) ∨ b = (inn zs, n) := fun h => by
    simpa [bs12] using h
  have z : sumO w3 (inn zs) (inP (sortS zs)) = 0 := by
    unfold sumO
    rw [List.filter_eq_nil_iff.mpr fun x hx => by simp [inP, T.isub x hx]]; rfl
  have z2 : sumO w3 (sortS zs) (inP (inn zs)) = 12 := by
    rw [sumO_w3]
    unfold inP
    omega
  have z3 : sumO w3 (inn zs) (inP []) = 24 := by
    rw [sumO_w3]
    have : ((inn zs).filter fun m => !inP [] m) = inn zs := List.filter_eq_self.mpr fun m _ => by simp [inP]
    rw [this, T.ilen]; rfl
  refine ⟨⟨T.alld, fun m hm => ⟨mkz m hm, show (0 : Int) < 3 by decide⟩, fun b hb m hm => ?_, fun b hb => ?_, by rw [T.alen]; decide, show 2 ≤ 1000 by decide, .inr ⟨_, _, rfl, rfl⟩, fun p hp => ?_, fun l b e => ?_, fun b r e m hm => ?_⟩, fun _ => show (0 : Int) ≤ 3 by decide, sortS_lt T.nd, fun b hb => ?_⟩
  · rcases two hb with rfl | rfl
    · exact hm
    · exact T.isub m hm
  · rcases two hb with rfl | rfl
    · exact ⟨T.alld, ⟨fun e => (by have := T.alen; rw [show sortS zs = [] from e] at this; exact absurd this (by decide)), show 0 < k by omega⟩⟩
    · exact ⟨T.ind, ⟨fun e => (by have := T.ilen; rw [show inn zs = [] from e] at this; exact absurd this (by decide)), show 0 < n by omega⟩⟩
  · have : p = ((sortS zs, k), (inn zs, n)) := by simpa [bs12] using hp
    subst this
    refine ⟨by show (inn zs).length < (sortS zs).length; rw [T.alen, T.ilen]; decide, z, show n < k by omega, ?_⟩
    show k - sumO w3 (sortS zs) (inP (inn zs)) < n
    rw [z2]; omega
  · rcases l with _ | ⟨x, _ | ⟨y, l⟩⟩
    · have := congrArg List.length e; simp [bs12] at this
    · have : b = (inn zs, n) := by simp [bs12] at e; exact e.2.symm
      subst this
      show n ≤ sumO w3 (inn zs) (inP [])
      rw [z3]; omega
    · have := congrArg List.length e; simp [bs12] at this
  · have hb : b = (sortS zs, k) := by simp [bs12] at e; exact e.1.symm
    subst hb
    show 3 ≤ looseV (k) m [(sortS zs, k), (inn zs, n)]
    have : looseV (k) m [(sortS zs, k), (inn zs, n)] = if m ∈ inn zs then k else k - n := if_pos hm
    rw [this]
    split <;> omega
  · rcases two hb with rfl | rfl
    · exact sortS_lt T.nd
    · exact sortS_lt (T.nd.sublist (List.drop_sublist _ _))
def r12 (zs : List Str) (k n : Int) : List Deed := leastB w3 (bs12 zs k n)
/-- what is left, by the numbers of marks that are left out -/
def tell12 (a b k n : Int) : Int := max (max 0 (n - 3 * b)) (k - 3 * a)
theorem left {k n : Int} (h1 : 10 ≤ n) (h2 : n ≤ 20) (h3 : n + 8 ≤ k) (h4 : k ≤ n + 9) (P : Str → Bool) : LA (r12 zs k n) P = tell12 ((sortS zs).filter fun m => !P m).length ((inn zs).filter fun m => !P m).length k n := by
  unfold r12
  rw [(T.forms h1 h2 h3 h4).LA_tell]
  show max (max 0 (n - sumO w3 (inn zs) P)) (k - sumO w3 (sortS zs) P) = _
  rw [sumO_w3, sumO_w3]
  rfl
/-- how many marks of a part are in the inner bar -/
def jn (zs p : List Str) : List Str := p.filter fun m => decide (m ∈ inn zs)
theorem counts {p : List Str} (hp : p.Sublist (sortS zs)) : ((sortS zs).filter fun m => !inP p m).length + p.length = 12 ∧ ((inn zs).filter fun m => !inP p m).length + (jn zs p).length = 8 ∧ (jn zs p).length ≤ p.length := by
  have pn := T.alld.sublist hp
  have c1 := cut_len T.alld pn fun m hm => hp.subset hm
  rw [T.alen] at c1
  have c2 := cut_len T.ind (pn.filter fun m => decide (m ∈ inn zs)) fun m hm => of_decide_eq_true (List.mem_filter.mp hm).2
  rw [T.ilen] at c2
  have e : ((inn zs).filter fun m => !decide (m ∈ p.filter fun m => decide (m ∈ inn zs))) = (inn zs).filter fun m => !inP p m := List.filter_congr fun m hm => by
    unfold inP
    congr 1
    rw [Bool.eq_iff_iff, decide_eq_true_eq, decide_eq_true_eq, List.mem_filter, decide_eq_true_eq]
    exact ⟨fun h => h.1, fun h => ⟨h, hm⟩⟩
  rw [e] at c2
  exact ⟨c1, c2, List.length_filter_le _ _⟩
/-- where both forms are apart -/
theorem apart {n : Int} (h1 : 10 ≤ n) (h2 : n ≤ 19) {p : List Str} (hp : p.Sublist (sortS zs)) : (LA (r12 zs (n + 9) n) (inP p) ≠ LA (r12 zs (n + 9) (n + 1)) (inP p)) ↔ ((24 : Int) ≤ n + 3 * (jn zs p).length ∧ p.length ≤ (jn zs p).length + 1) := by
  obtain ⟨c1, c2, c3⟩ := T.counts hp
  rw [T.left h1 (by omega) (by omega) (by omega), T.left (by omega) (by omega) (by omega) (by omega)]
  unfold tell12
  omega
theorem le {n : Int} (h1 : 10 ≤ n) (h2 : n ≤ 19) (P : Str → Bool) : LA (r12 zs (n + 9) n) P ≤ LA (r12 zs (n + 9) (n + 1)) P := by
  rw [T.left h1 (by omega) (by omega) (by omega), T.left (by omega) (by omega) (by omega) (by omega)]
  unfold tell12
  omega
def due (zs : List Str) (n : Int) : List Str := (inn zs).take ((23 - n) / 3 + 1).toNat
theorem due_len {n : Int} (h1 : 10 ≤ n) (h2 : n ≤ 19) : ((due zs n).length : Int) = (23 - n) / 3 + 1 := by
  unfold due
  rw [List.length_take, T.ilen]
  omega
theorem jn_all {p : List Str} (h : ∀ m ∈ p, m ∈ inn zs) : jn zs p = p := List.filter_eq_self.mpr fun m hm => decide_eq_true (h m hm)
theorem isubl : (inn zs).Sublist (sortS zs) := sub_sorted (sortS_lt (T.nd.sublist (List.drop_sublist _ _))) (sortS_lt T.nd) T.isub
theorem first {n : Int} (h1 : 10 ≤ n) (h2 : n ≤ 19) {f : List Str → Bool} (hf : ∀ p, p.Sublist (sortS zs) → (f p = true ↔ LA (r12 zs (n + 9) n) (inP p) ≠ LA (r12 zs (n + 9) (n + 1)) (inP p))) : (partsOf (sortS zs)).find? f = some (due zs n) := by
  have dl := T.due_len h1 h2
  have ds : (due zs n).Sublist (inn zs) := List.take_sublist _ _
  have dsub : (due zs n).Sublist (sortS zs) := ds.trans T.isubl
  have dj : jn zs (due zs n) = due zs n := T.jn_all fun m hm => ds.subset hm
  refine find_first (sortS_lt T.nd) dsub ((hf _ dsub).mpr ((T.apart h1 h2 dsub).mpr (by rw [dj]; omega))) fun p hp fp => ?_
  have ap := (T.apart h1 h2 hp).mp ((hf p hp).mp fp)
  obtain ⟨_, _, c3⟩ := T.counts hp
  by_cases e : p.length = (due zs n).length
  · have ej : (jn zs p).length = p.length := by omega
    have all : ∀ m ∈ p, m ∈ inn zs := fun m hm => by
      have : jn zs p = p := List.filter_sublist.eq_of_length ej
      rw [← this] at hm
      exact of_decide_eq_true (List.mem_filter.mp hm).2
    have ps : p.Sublist (inn zs) := sub_sorted ((sortS_lt T.nd).sublist hp) (sortS_lt (T.nd.sublist (List.drop_sublist _ _))) all
    have et : (inn zs).take p.length = due zs n := by
      rw [e]
      unfold due
      rw [List.length_take, List.take_eq_take_iff]
      omega
    rcases take_first (s := inn zs) (sortS_lt (T.nd.sublist (List.drop_sublist _ _)) : (inn zs).Pairwise ltS) ps with q | q
    · rw [et] at q; exact .inl q
    · rw [et] at q
      refine .inr ?_
      unfold ltR
      rw [if_pos e.symm]; exact q
  · refine .inr ?_
    unfold ltR
    rw [if_neg (Ne.symm e)]
    exact decide_eq_true (by omega)
end Tw
end PP
set_option Elab.async false
set_option linter.all false
set_option maxRecDepth 100000
set_option maxHeartbeats 4000000
namespace PP
open PySem L2
/-- a row that opens just some marks -/
structure Alt (po : List Str) (n : Nat) (r : List Deed) : Prop where
  v : ValidRow r
  nd : (r.flatMap opens).Nodup
  sub : ∀ m ∈ r.flatMap opens, m ∈ po
  len : r.length ≤ n
theorem Alt.pause {po : List Str} {n : Nat} {row : List Deed} (A : Alt po n row) (hn : n ≤ 90000) : Alt po (n + 1) (.pause 3 :: row) := by
  have G := good_of A.nd A.v.vd
  have l := A.len
  refine ⟨valid_of ⟨by rw [List.flatMap_cons]; exact A.nd, fun r1 x r2 e => ?_⟩ (fun d hd => ?_) (by rw [List.length_cons]; omega), by rw [List.flatMap_cons]; exact A.nd, fun m hm => A.sub m (by rw [List.flatMap_cons] at hm; exact hm), by rw [List.length_cons]; omega⟩
  · cases r1 with
    | nil => cases e
    | cons a r1 =>
      rw [List.cons_append] at e
      have e' := (List.cons.inj e).2
      have ea := (List.cons.inj e).1
      subst ea
      obtain ⟨g1, g2⟩ := G.bk r1 x r2 e'
      rw [List.flatMap_cons, List.flatMap_cons]
      exact ⟨g1, g2⟩
  · rcases List.mem_cons.mp hd with rfl | hd
    · exact (by decide : (0 : Int) < 3)
    · exact A.v.ok d hd
theorem Alt.mono {po : List Str} {n k : Nat} {row : List Deed} (A : Alt po n row) (h : n ≤ k) : Alt po k row := ⟨A.v, A.nd, A.sub, Nat.le_trans A.len h⟩
end PP
set_option Elab.async false
set_option linter.all false
set_option maxRecDepth 100000
set_option maxHeartbeats 4000000
namespace PP
open PySem L2
structure Ex3 (a b c : Str) (k : Int) : Prop where
  ab : a ≠ b
  ac : a ≠ c
  bc : b ≠ c
  ma : MarkOk a
  mb : MarkOk b
  mc : MarkOk c
  k0 : 0 < k
section
variable {a b c : Str} {k : Int} (x : Ex3 a b c k) {i : Nat} (hi : i ≤ 5) {p : Int} (hp : 0 < p)
include x hi hp
omit x hi hp in
def oy (k : Int) (qa qb qc : Bool) : Int := max 0 ((if qa then 3 * k else 0) + (if qc then 3 * k else 0) - 2 * k) + (if qb then 3 * k else 0)
end
end PP
set_option Elab.async false
set_option linter.all false
set_option maxRecDepth 100000
set_option maxHeartbeats 4000000
namespace PP
open PySem L2
theorem DsAre.len {xs : List D} {ds : List Deed} (h : DsAre xs ds) : xs.length = ds.length := by
  induction h with
  | nil => rfl
  | cons _ _ ih => rw [List.length_cons, List.length_cons, ih]
theorem DsAre.app {xs ys : List D} {ds es : List Deed} (h : DsAre xs ds) (k : DsAre ys es) : DsAre (xs ++ ys) (ds ++ es) := by
  induction h with
  | nil => exact k
  | cons q _ ih => exact .cons q ih
end PP
set_option Elab.async false
set_option linter.all false
set_option maxRecDepth 100000
set_option maxHeartbeats 4000000
set_option Elab.async false
set_option linter.all false
set_option maxRecDepth 100000
set_option maxHeartbeats 4000000
set_option Elab.async false
set_option linter.all false
set_option maxRecDepth 100000
set_option maxHeartbeats 4000000
set_option Elab.async false
set_option linter.all false
set_option maxRecDepth 100000
set_option maxHeartbeats 4000000
set_option Elab.async false
set_option linter.all false
set_option maxRecDepth 100000
set_option maxHeartbeats 4000000
set_option Elab.async false
set_option linter.all false
set_option maxRecDepth 100000
set_option maxHeartbeats 4000000
set_option Elab.async false
set_option linter.all false
set_option maxRecDepth 100000
set_option maxHeartbeats 4000000
namespace PP
open PySem L2
theorem word_ok (z : Str) (h : (decide (1 ≤ z.length) && (decide (z.length ≤ 8) && z.cps.toList.all inLet)) = true) : MarkOk z := by
  rw [Bool.and_eq_true, Bool.and_eq_true, decide_eq_true_eq, decide_eq_true_eq, List.all_eq_true] at h
  exact ⟨h.1, h.2.1, fun c hc => of_decide_eq_true (h.2.2 c hc)⟩
theorem shw_deed {d : Deed} (h : okD d) (hn : match d with | .op _ n => n < 10 ^ 110 | .days n => n < 10 ^ 110 | .pause n => n < 10 ^ 110 | .back _ => True) : Shw 27 1 d.d := by
  have it : ∀ {n : Int}, 0 < n → n < 10 ^ 110 → Shw 8 0 (.int n) := fun h1 h2 => (Shw.int (by omega) h2).mono (by decide) (by decide)
  cases d with
  | op m n =>
    show Shw ((8 + 1) * [D.str "open", D.str m, D.int n].length) (0 + 1) (.tup [.str "open", .str m, .int n])
    refine Shw.tup fun x hx => ?_
    simp only [List.mem_cons, List.mem_nil_iff, or_false] at hx
    rcases hx with rfl | rfl | rfl
    · exact Shw.mark (word_ok "open" (by decide +kernel))
    · exact Shw.mark h.1
    · exact it h.2 hn
  | days n =>
    refine Shw.mono (b := (8 + 1) * [D.str "days", D.int n].length) (k := 0 + 1) ?_ (show 18 ≤ 27 by decide) (by decide)
    show Shw ((8 + 1) * [D.str "days", D.int n].length) (0 + 1) (.tup [.str "days", .int n])
    refine Shw.tup fun x hx => ?_
    simp only [List.mem_cons, List.mem_nil_iff, or_false] at hx
    rcases hx with rfl | rfl
    · exact Shw.mark (word_ok "days" (by decide +kernel))
    · exact it h hn
  | pause n =>
    refine Shw.mono (b := (8 + 1) * [D.str "pause", D.int n].length) (k := 0 + 1) ?_ (show 18 ≤ 27 by decide) (by decide)
    show Shw ((8 + 1) * [D.str "pause", D.int n].length) (0 + 1) (.tup [.str "pause", .int n])
    refine Shw.tup fun x hx => ?_
    simp only [List.mem_cons, List.mem_nil_iff, or_false] at hx
    rcases hx with rfl | rfl
    · exact Shw.mark (word_ok "pause" (by decide +kernel))
    · exact it h hn
  | back m =>
    refine Shw.mono (b := (8 + 1) * [D.str "back", D.str m].length) (k := 0 + 1) ?_ (show 18 ≤ 27 by decide) (by decide)
    show Shw ((8 + 1) * [D.str "back", D.str m].length) (0 + 1) (.tup [.str "back", .str m])
    refine Shw.tup fun x hx => ?_
    simp only [List.mem_cons, List.mem_nil_iff, or_false] at hx
    rcases hx with rfl | rfl
    · exact Shw.mark (word_ok "back" (by decide +kernel))
    · exact Shw.mark h
end PP
set_option Elab.async false
set_option linter.all false
set_option maxRecDepth 100000
set_option maxHeartbeats 4000000
namespace PP
open PySem L2
def N_Account_furtherX : List Str := ["self", "row"]
def c_Account_furtherX : List Sx := [(.ite (.not (.call "is_list" [(.var 1)] 0)) [(.raise "BadDeed" ["index"] [(.bi .len [(.att "Account" (.var 0) "deeds")])])] []), (.ret (.call "Account" [(.bin .add (.mth "Account" (.var 0) "row" [] 0) (.bi .list [(.var 1)]))] 0))]
structure Sp (x : D) : Prop where
  ok : OkDeed x
  sh : Shw 44 2 x
def SpI (y : D) : Prop := OkIt y ∧ Shw 10 1 y
theorem spi_str (s : Str) (h : (decide (s.length ≤ 10) && s.cps.toList.all fun c => decide (c < 16 ^ 8)) = true) : SpI (.str s) := by
  rw [Bool.and_eq_true, decide_eq_true_eq] at h
  have sb := sizeLine_big
  exact ⟨⟨rfl, fun m e => by cases e; omega⟩, ⟨h.2, h.1, rfl, rfl, Nat.zero_le _⟩⟩
theorem spi_mark {m : Str} (h : MarkOk m) : SpI (.str m) := ⟨⟨rfl, fun m e => by cases e; exact mark_size h⟩, (Shw.mark h).mono (by decide) (by decide)⟩
theorem shw_int (n : Int) (h : ((ps (.int n)).leavesShort 110 && (ps (.int n)).showable) = true) : Shw 0 0 (.int n) := by
  rw [Bool.and_eq_true] at h
  exact ⟨h.1, Nat.le_refl _, rfl, h.2, Nat.le_refl _⟩
theorem spi_int (n : Int) (h : ((ps (.int n)).leavesShort 110 && (ps (.int n)).showable) = true) : SpI (.int n) := ⟨⟨rfl, fun m e => by cases e⟩, (shw_int n h).mono (by decide) (by decide)⟩
theorem shw_bl3 (b : Bool) : Shw 0 0 (.bl b) := by
  cases b <;> exact ⟨rfl, Nat.le_refl _, rfl, rfl, Nat.le_refl _⟩
theorem shw_non3 : Shw 0 0 .non := ⟨rfl, Nat.le_refl _, rfl, rfl, Nat.le_refl _⟩
theorem spi_bl (b : Bool) : SpI (.bl b) := ⟨⟨rfl, fun m e => by cases e⟩, (shw_bl3 b).mono (by decide) (by decide)⟩
theorem spi_non : SpI .non := ⟨⟨rfl, fun m e => by cases e⟩, shw_non3.mono (by decide) (by decide)⟩
theorem spi_one {s : Str} (h : Shw 8 0 (.str s)) : SpI (.lst [.str s]) := ⟨⟨rfl, fun m e => by cases e⟩, Shw.mono (b := (8 + 1) * [D.str s].length) (k := 0 + 1) (Shw.lst fun x hx => by rw [List.mem_singleton.mp hx]; exact h) (show 9 ≤ 10 by decide) (by decide)⟩
theorem sp_tup {ys : List D} (h : ∀ y ∈ ys, SpI y) (hl : ys.length ≤ 4) : Sp (.tup ys) :=
  ⟨⟨rfl, fun xs e => (by cases e), fun xs e y hy => by rcases e with e | e <;> cases e; exact (h y hy).1⟩, Shw.mono (b := (10 + 1) * ys.length) (k := 1 + 1) (Shw.tup fun y hy => (h y hy).2) (by omega) (by decide)⟩
theorem sp_lst {ys : List D} (h : ∀ y ∈ ys, SpI y) (hl : ys.length ≤ 4) : Sp (.lst ys) :=
  ⟨⟨rfl, fun xs e => (by cases e), fun xs e y hy => by rcases e with e | e <;> cases e; exact (h y hy).1⟩, Shw.mono (b := (10 + 1) * ys.length) (k := 1 + 1) (Shw.lst fun y hy => (h y hy).2) (by omega) (by decide)⟩
theorem sp_other {x : D} (h1 : bltTy (tyD x) = true) (h2 : ∀ xs, x ≠ .kt xs) (h3 : ∀ xs, x ≠ .lst xs ∧ x ≠ .tup xs) {b k : Nat} (h4 : Shw b k x) (hb : b ≤ 44) (hk : k ≤ 2) : Sp x :=
  ⟨⟨h1, h2, fun xs e y hy => e.elim (fun e => absurd e (h3 xs).1) fun e => absurd e (h3 xs).2⟩, h4.mono hb hk⟩
theorem sp_deed {d : Deed} (h : okD d) (hn : match d with | .op _ n => n < 10 ^ 110 | .days n => n < 10 ^ 110 | .pause n => n < 10 ^ 110 | .back _ => True) : Sp d.d := ⟨okDeed_d h, (shw_deed h hn).mono (by decide) (by decide)⟩
def odd03 (a : Str) : List D := [.non, .int 5, .str "days", .tup [], .tup [.str "open", .str a], .tup [.str "open", .str a, .int 0], .tup [.str "open", .str a, .int (-3)], .tup [.str "open", .str a, .bl true], .tup [.str "open", .str "A", .int 3], .dct [],
  .tup [.str "open", .str "", .int 3], .tup [.str "open", .str a, .int 3, .int 4], .tup [.str "days"], .tup [.str "days", .int 0], .tup [.str "days", .str "3"], .tup [.str "days", .non],
  .tup [.str "pause", .bl false], .tup [.str "pause", .int (-1)], .tup [.str "back"], .tup [.str "back", .int 5], .tup [.str "back", .str "a b"], .tup [.str "back", .str a, .int 1], .tup [.str "shut", .str a],
  .tup [.int 3, .str a], .lst [.str "open", .str a, .non], .tup [.str "open", .str a, .int 2], .tup [.str "back", .str a], .tup [.str "back", .str a], .lst [.str "days", .int 3], .tup [.non, .int 3],
  .tup [.str "open", .str "ninesigns", .int 2], .tup [.lst [.str "open"], .str a, .int 3], .tup [.str "days", .int 2, .int 3], .tup [.str "pause", .int 1, .int 1], .tup [.str "back", .lst [.str "a"]], .tup [.str "open", .lst [.str "a"], .int 3]]
def SpIs (a : Str) (y : D) : Prop := y = .str a ∨ y ∈ [D.str "open", .str "A", .str "", .str "days", .str "3", .str "pause", .str "back", .str "a b", .str "shut", .str "ninesigns", .int 0, .int (-3), .int 3, .int 4, .int (-1), .int 5, .int 1, .int 2, .bl true, .bl false, .non, .lst [.str "open"], .lst [.str "a"]]
theorem spis {a : Str} (ha : MarkOk a) {y : D} (h : SpIs a y) : SpI y := by
  rcases h with rfl | h
  · exact spi_mark ha
  · simp only [List.mem_cons, List.mem_nil_iff, or_false] at h
    rcases h with rfl | rfl | rfl | rfl | rfl | rfl | rfl | rfl | rfl | rfl | rfl | rfl | rfl | rfl | rfl | rfl | rfl | rfl | rfl | rfl | rfl | rfl | rfl
    · exact spi_str _ (by decide +kernel)
    · exact spi_str _ (by decide +kernel)
    · exact spi_str _ (by decide +kernel)
    · exact spi_str _ (by decide +kernel)
    · exact spi_str _ (by decide +kernel)
    · exact spi_str _ (by decide +kernel)
    · exact spi_str _ (by decide +kernel)
    · exact spi_str _ (by decide +kernel)
    · exact spi_str _ (by decide +kernel)
    · exact spi_str _ (by decide +kernel)
    · exact spi_int _ (by decide +kernel)
    · exact spi_int _ (by decide +kernel)
    · exact spi_int _ (by decide +kernel)
    · exact spi_int _ (by decide +kernel)
    · exact spi_int _ (by decide +kernel)
    · exact spi_int _ (by decide +kernel)
    · exact spi_int _ (by decide +kernel)
    · exact spi_int _ (by decide +kernel)
    · exact spi_bl _
    · exact spi_bl _
    · exact spi_non
    · exact spi_one (Shw.mark (word_ok "open" (by decide +kernel)))
    · exact spi_one (Shw.mark (word_ok "a" (by decide +kernel)))
theorem odd03_top {a : Str} {x : D} (h : x ∈ odd03 a) : x ∈ [D.non, .int 5, .str "days", .dct []] ∨ ∃ ys, (x = .tup ys ∨ x = .lst ys) ∧ ys.length ≤ 4 ∧ ∀ y ∈ ys, SpIs a y := by
  have key : ∀ x ∈ odd03 a, x ∈ [D.non, .int 5, .str "days", .dct []] ∨ ∃ ys, (x = .tup ys ∨ x = .lst ys) ∧ ys.length ≤ 4 ∧ ∀ y ∈ ys, SpIs a y := by
    unfold odd03 SpIs
    simp only [List.forall_mem_cons]
    refine ⟨?_, ?_, ?_, ?_, ?_, ?_, ?_, ?_, ?_, ?_, ?_, ?_, ?_, ?_, ?_, ?_, ?_, ?_, ?_, ?_, ?_, ?_, ?_, ?_, ?_, ?_, ?_, ?_, ?_, ?_, ?_, ?_, ?_, ?_, ?_, ?_, ?_⟩
    all_goals first
      | (refine .inl ?_; simp; done)
      | (refine .inr ⟨_, .inl rfl, Nat.le_of_ble_eq_true rfl, ?_⟩; simp; done)
      | (refine .inr ⟨_, .inr rfl, Nat.le_of_ble_eq_true rfl, ?_⟩; simp; done)
      | (intro x hx; cases hx; done)
  exact key x h
theorem odd03_sp {a : Str} (ha : MarkOk a) {x : D} (h : x ∈ odd03 a) : Sp x := by
  rcases odd03_top h with h | ⟨ys, rfl | rfl, hl, hy⟩
  · simp only [List.mem_cons, List.mem_nil_iff, or_false] at h
    rcases h with rfl | rfl | rfl | rfl
    · exact sp_other rfl nofun (fun _ => ⟨nofun, nofun⟩) shw_non3 (by decide) (by decide)
    · exact sp_other rfl nofun (fun _ => ⟨nofun, nofun⟩) (shw_int 5 (by decide +kernel)) (by decide) (by decide)
    · exact sp_other rfl nofun (fun _ => ⟨nofun, nofun⟩) (Shw.mark (word_ok "days" (by decide +kernel))) (by decide) (by decide)
    · exact sp_other (b := 0) (k := 1) rfl nofun (fun _ => ⟨nofun, nofun⟩) ⟨rfl, Nat.le_refl _, rfl, rfl, Nat.le_refl _⟩ (by decide) (by decide)
  · exact sp_tup (fun y h => spis ha (hy y h)) hl
  · exact sp_lst (fun y h => spis ha (hy y h)) hl
def conOdd03 : Con := fun as c K _ => ∃ pool : List Str, as = [none, some (.lst (pool.map D.str))] ∧ pool ≠ [] ∧ pool.length ≤ 1000000 ∧ (∀ m ∈ pool, MarkOk m) ∧ c.c + 2 < 1000000 ∧ ∀ x c', Sp x → c'.c = c.c + 2 → K (.fz x) c'
theorem p_odd03 {Γ : Env} (h1 : Γ.fn "_law_pick" = some (.pl conPick false [])) : Impl Γ 4 conOdd03 c__law_odd03 := by
  intro as c K h
  obtain ⟨pool, rfl, hne, hl, hm, hc, hk⟩ := h
  have sb := sizeLine_big
  ((repeat (first | ((conv => whnf); refine And.intro (by first | exact rfl | exact trivial | exact ⟨rfl, rfl⟩ | exact ⟨rfl, strs_scal _⟩ | exact ⟨trivial, trivial⟩ | assumption | decide | exact Nat.le_of_ble_eq_true rfl | omega) ?_) | ((conv => whnf); first | rw [h1]))); try (conv => whnf))
  refine ⟨pool.map D.str, rfl, by simpa using hne, by rw [List.length_map]; exact hl, show c.c < 1000000 by omega, fun x c2 hx hc2 => ⟨(fun e => (by cases e)), ?_⟩⟩
  have hc2 : c2.c = c.c + 1 := hc2
  obtain ⟨a, ha, rfl⟩ := List.mem_map.mp hx
  ((repeat (first | ((conv => whnf); refine And.intro (by first | exact rfl | exact trivial | exact ⟨rfl, rfl⟩ | exact ⟨rfl, strs_scal _⟩ | exact ⟨trivial, trivial⟩ | assumption | decide | exact Nat.le_of_ble_eq_true rfl | omega) ?_) | ((conv => whnf); first | rw [h1]))); try (conv => whnf))
  refine ⟨odd03 a, rfl, by simp [odd03], Nat.le_of_ble_eq_true rfl, show c2.c < 1000000 by omega, fun x c3 hx hc3 => ⟨(fun e => (by cases e)), ?_⟩⟩
  have hc3 : c3.c = c2.c + 1 := hc3
  exact hk x c3 (odd03_sp (hm a ha) hx) (by omega)
end PP
set_option Elab.async false
set_option linter.all false
set_option maxRecDepth 100000
set_option maxHeartbeats 4000000
namespace PP
open PySem L2
def ledD (σ : Str → Str) (k : Int) : Deed → Deed
  | .op m n => .op (σ m) (n * k)
  | .days n => .days (n * k)
  | .pause n => .pause (n * k)
  | .back m => .back (σ m)
def led (σ : Str → Str) (k : Int) (row : List Deed) : List Deed := row.map (ledD σ k)
structure Ren (σ : Str → Str) (A : List Str) (k : Int) : Prop where
  inj : ∀ a ∈ A, ∀ b ∈ A, σ a = σ b → a = b
  mok : ∀ a ∈ A, MarkOk (σ a)
  k0 : 0 < k
theorem Ren.sub {σ : Str → Str} {A B : List Str} {k : Int} (r : Ren σ A k) (h : ∀ m ∈ B, m ∈ A) : Ren σ B k := ⟨fun a ha b hb => r.inj a (h a ha) b (h b hb), fun a ha => r.mok a (h a ha), r.k0⟩
end PP
set_option Elab.async false
set_option linter.all false
set_option maxRecDepth 100000
set_option maxHeartbeats 4000000
namespace PP
open PySem L2
def N_Account___len__ : List Str := ["self"]
def c_Account___len__ : List Sx := [(.ret (.bi .len [(.att "Account" (.var 0) "deeds")]))]
def conLen : Con := fun as c K _ => ∃ row, as = [some (accD row)] ∧ row.length ≤ 100000 ∧ K (.fz (.int (row.length : Int))) c
theorem p_accLen {Γ : Env} : Impl Γ 1 conLen c_Account___len__ := by
  intro as c K h
  obtain ⟨row, rfl, hl, hk⟩ := h
  have sb := sizeLine_big
  ((repeat ((conv => whnf); refine And.intro (by first | exact rfl | exact trivial | exact ⟨rfl, rfl⟩ | exact ⟨rfl, strs_scal _⟩ | exact ⟨trivial, trivial⟩ | assumption | decide | exact Nat.le_of_ble_eq_true rfl | omega) ?_)); try (conv => whnf))
  rw [List.length_map]
  exact hk
end PP
set_option Elab.async false
set_option linter.all false
set_option maxRecDepth 100000
set_option maxHeartbeats 4000000
namespace PP
open PySem L2
def conMkX : Con := fun as c K e => ∃ d, as = [some d] ∧ ((isListD d = false ∧ bltTy (tyD d) = true ∧ e (bdX 0) c) ∨ ∃ xs, LstIs d xs ∧ (∀ x ∈ xs, OkDeed x) ∧ xs.length ≤ 100000 ∧ (chk [] [] 0 xs = none → K (.fz (accD (rowOf xs))) c) ∧ ∀ i, chk [] [] 0 xs = some i → e (bdX i) c)
section
variable {P : Program} {w : World} {K : PySem.W.Frag} {mg : Str → Option Value} {base : Heap} {qual : Str} {params : Arguments} {body : List Stmt} {scope : Scope} {dvs : List V} {kws : List (Str × V)} {f : Addr} {fd : FuncData}
theorem init_okX {G : Gc} {Γ : Env} {k : Nat} {nm : Str} (F : FunD K nm qual params body scope dvs kws f fd) (S : FnScope N_acInit ["self", "row"] scope) (hK : K = G.K) (hΓ : Γ.fn "checked_row" = some (.pl conCheckedX false [])) (kc : AcK K (G.ga "Account"))
    (hd : ∀ (cdv : Value) (A : Around) (outer : List PySem.Env) (s : Shared) (H : Hp) (E : XK) (Fm : Fm) (Ex : XC), Fm.G = G → Gd (cxOf (L2.CX P w) P w K mg base N_acInit qual scope f cdv A outer s H E) Fm Ex → RoomG k (A.deeper (PyProof.Rows.envOfC qual scope s.heap.objs.size f cdv)) →
      PSs (cxOf (L2.CX P w) P w K mg base N_acInit qual scope f cdv A outer s H E) body (t_acInit K (LR Fm Ex (evP Γ i_acDeeds).r))) :
    FnOg P w K mg base (L2.CX P w) (k + 1) f fd ["self", "row"] (spI G "Account" ["self", "row"].length conMkX) := by
  refine F.okg S (fun vs H Q E h => h.1) fun cdv A outer s H vs Q E hr h => ?_
  obtain ⟨hl, x, dx, H0, us, T, A', as, c, K', e, rfl, rfl, hx, hdx, hne, hs, h1, h2, hA, ha, hc, kq, kx⟩ := h
  obtain ⟨d, rfl, hc⟩ := hc
  obtain ⟨v, rfl, hz⟩ : ∃ v, us = [v] ∧ Fz G A' H0 v d := by
    cases ha with
    | d z ha => cases ha; exact ⟨_, rfl, z⟩
  let C := G.ga "Account"
  let Hp0 : Hp := upd (upd H0 dx (.own x)) x (.ins C dx [])
  let A2 : AS := fun a => A' a ∨ a = x ∨ a = dx
  let Fr : Fm := ⟨G, T, Hp0, T.A, A2⟩
  have kp0 : ∀ {Z : AS} {H' : Hp}, (∀ a, A' a → Z a) → Keep T.A Z Hp0 H' → Keep T.A A' H0 H' := fun {Z H'} zz kp b o q n => by
    obtain ⟨o', e2, le, z⟩ := kp b o (dm0 hx hdx q) n
    exact ⟨o', e2, le, fun h => z (zz b h)⟩
  have tk : Takes (cxOf (L2.CX P w) P w K mg base N_acInit qual scope f cdv A outer s Hp0 E) (wx Fr fun xn s => e xn s.c) :=
    Takes.imp (takes_of (X := cxOf (L2.CX P w) P w K mg base N_acInit qual scope f cdv A outer s Hp0 E) (E := E) rfl rfl rfl rfl) fun cls d σ' H' ⟨Z, ow, s', xn, R, xi, w⟩ => kx xn s'.c cls d H' w (kp0 (fun a z => .inl z) R.keep) R.strm (xi.mono fun a z => by
      rcases R.z0 a (.inl z) with q | q
      · exact .inl q
      · exact R.mdz a q)
  refine ⟨_, hd cdv A outer s Hp0 E Fr (fun xn s => e xn s.c) rfl ⟨hK, rfl, S.nd, hr.units, hr.g, tk, h2⟩ hr, ?_⟩
  have nx : x ≠ T.s := fun e => hs.is (by rw [← e]; exact hx)
  have nx2 : x ≠ T.l := fun e => hs.il (by rw [← e]; exact hx)
  have nd : dx ≠ T.s := fun e => hs.is (by rw [← e]; exact hdx)
  have nd2 : dx ≠ T.l := fun e => hs.il (by rw [← e]; exact hdx)
  have hst : StrOk T Hp0 c := (hs.new hdx).new (by rw [upd_ne hne.symm]; exact hx)
  have zx : Hp0 x = some (.ins C dx []) := upd_same
  have hz2 : Fz G A2 Hp0 v d := by
    refine hz.tr (A := A') (Z := A') (fun b o e n => ⟨o, dm0 hx hdx e, .refl o, fun _ => rfl⟩) fun a z => ?_
    rcases z with z | rfl | rfl
    · exact .inl z
    · exact .inr hx
    · exact .inr hdx
  have av : ∀ a, Av' A2 (fun _ => none) a → A2 a := fun a z => by
    rcases z with z | ⟨_, z⟩
    · exact z
    · cases z
  have R0 : Rep Fr A2 (fun _ => none) (start N_acInit [.ref x, v]) Hp0 ⟨[none, some (.fz d), none, none], c⟩ := by
    refine ⟨Keep.refl _ _ _, hst, fun _ z => z, fun a z => .inl (h1 a z), fun a z => .inl z, fun a z => ?_, fun a z => .inl (.inl (h1 a z)), fun _ _ e => (by cases e), fun _ _ _ e => (by cases e), fun _ _ e => (by cases e), rfl, fun i p e => ?_⟩
    · rcases z with z | rfl | rfl
      · cases q : H0 a with
        | none => exact absurd q (hA a z).1
        | some o => exact (hA a z).le q (show Hp0 a = some o from dm0 hx hdx q) (.refl o)
      · exact .of zx nofun
      · refine .of (u := .own x) ?_ nofun
        show upd (upd _ _ _) _ _ _ = _
        rw [upd_ne hne, upd_same]
    · match i, e with
      | 1, e => cases e; exact ⟨v, rfl, hz2.mono fun a z => .inl (av a z), rfl⟩
      | n + 4, e => cases e
  dsimp only [t_acInit, tSeq, sFld]
  refine ⟨A2, fun _ => none, _, fun r s1 => ∃ row, r = .fz (.tup (row.map Deed.d)) ∧ ValidRow row ∧ K' (.fz (accD row)) c ∧ s1.c = c, R0, ?_, fun r s1 v1 H1 ow1 k1 rr e1 => ?_⟩
  · show (callE (Γ.fn "checked_row") [] (evA Γ [.var 1]) (evB Γ [.var 1]) 0) _ _ _
    rw [hΓ]
    refine ⟨d, rfl, ?_⟩
    rcases hc with ⟨q1, q2, q3⟩ | ⟨xs, q1, q2, q3, q4, q5⟩
    · exact .inl ⟨q1, q2, fun e => (by cases e), q3⟩
    · exact .inr ⟨xs, q1, q2, q3, fun h => ⟨fun e => (by cases e), rowOf xs, rfl, (chk_ok q3 h).1, q4 h, rfl⟩, fun i h => ⟨fun e => (by cases e), q5 i h⟩⟩
  obtain ⟨row, rfl, hv, hk, hc⟩ := k1
  obtain ⟨R1, z1⟩ := rr
  have z1' : Fz G (Av' A2 ow1) H1 v1 (.tup (row.map Deed.d)) := z1
  cases z1' with
  | tup nt et l1 =>
    rename_i t vs1
    have ax : Av' A2 ow1 x := .inl (.inr (.inl rfl))
    have tx : t ≠ x := fun e => nt (e ▸ ax)
    have mx : ¬ Fr.md x := fun z => hs.i z hx
    have hx1 : H1 x = some (.ins C dx []) := R0.atZ e1 (.inr (.inl rfl)) mx zx
    refine ⟨_, rfl, x, C, dx, [], rfl, hx1, kc.c, kc.d, (by decide), ?_⟩
    intro g hg
    have gx : g ≠ x := fun e => by rw [e, upd_same] at hg; cases hg
    have g0 : H1 g = none := by rw [upd_ne gx] at hg; exact hg
    refine ⟨_, rfl, x, C, dx, [("deeds", .ref t)], rfl, by rw [upd_ne gx.symm, upd_same]; rfl, kc.c, kc.g, (by show 1 < 1000; decide), ?_⟩
    intro sn hsn
    have sx : sn ≠ x := fun e => by rw [e, upd_same] at hsn; cases hsn
    have sg : sn ≠ g := fun e => by rw [e, upd_ne gx, upd_same] at hsn; cases hsn
    have s0 : H1 sn = none := by rw [upd_ne sx, upd_ne sg, upd_ne sx] at hsn; exact hsn
    refine ⟨_, rfl, x, C, dx, [("deeds", .ref t), ("given", .ref g)], rfl, by rw [upd_ne sx.symm, upd_same]; rfl, kc.c, kc.s, (by show 2 < 1000; decide), ?_⟩
    refine ac_loop (G := G) (A := Av' A2 ow1) (row := row) hK kc ⟨upd_same, ?_, ?_, fun b o e n => ?_, g0, s0, gx, sx, sg.symm⟩ et tx ax l1 hv rfl rfl fun sn' σ' H' q => ?_
    · rw [upd_ne gx, upd_ne sg.symm, upd_ne gx, upd_same]; rfl
    · rw [upd_ne sx, upd_same]; rfl
    · rw [upd_ne n, upd_ne (ne_of_none e s0), upd_ne n, upd_ne (ne_of_none e g0), upd_ne n]; exact e
    · refine kq _ c H' hk (fun b o e n => ?_) ?_ ?_
      · have e' : Hp0 b = some o := dm0 hx hdx e
        obtain ⟨o', e2, le, zz⟩ := R1.keep b o e' n
        exact ⟨o', q.old b o' e2 (ne_of_none e hx), le, fun z => zz (.inl z)⟩
      · have st : StrOk T H1 c := by have := R1.strm; rw [hc] at this; exact this
        refine st.keep ?_ ?_ (fun b o e z => q.old b o e (fun q => by rw [q, hx1] at e; cases e; exact nt_ins z))
        · cases e : H1 T.s with
          | none => exact absurd e st.is
          | some o => exact q.old _ _ e nx.symm
        · cases e : H1 T.l with
          | none => exact absurd e st.il
          | some o => exact q.old _ _ e nx2.symm
      · have kp : Keep (Av' A2 ow1) (Av' A2 ow1) H1 H' := fun b o e n => ⟨o, q.old b o e (fun e => n (e ▸ ax)), .refl o, fun _ => rfl⟩
        have ng : ¬ A' g := fun z => R1.avin (.inl (.inl z)) g0
        have nsn : ¬ A' sn' := fun z => R1.avin (.inl (.inl z)) q.s0
        have zt : Fz G A' H' (.ref t) (.tup (row.map Deed.d)) := Fz.tr kp (fun a z => .inl (.inl (.inl z))) (Fz.tup nt et l1)
        exact .obj (fun z => (hA x z).1 hx) q.ex rfl (.cons zt (.cons (.dct ng (.inl q.eg) (kv_keys _) (fzl_mkv _)) (.cons (.dct nsn (.inl q.es) (kv_keys _) (fzl_mkv _)) .nil)))
end
end PP
set_option Elab.async false
set_option linter.all false
set_option maxRecDepth 100000
set_option maxHeartbeats 4000000
namespace PP
open PySem L2
def N_law : List Str := ["_law_script", "_law_stream", "_law_turn", "_law_pool_here", "_law_row_here", "_law_k", "_law_told", "_law_cut", "_law_first", "_law_odd_here", "_law_at", "_law_thing", "_law_kept", "_law_bad"]
def c_law : List Sx := [(.for_ (.one 2) (.bi .range [(.int 10)]) [(.asgF 3 (.call "_law_pool" [(.var 1), (.bin .add (.int 1) (.call "_law_draw" [(.var 1), (.int 4)] 0))] 0)), (.asgF 4 (.bi .list [(.call "_law_row" [(.var 1), (.var 3), (.int 20)] 0)])), (.for_ (.one 5) (.bi .range [(.call "_law_draw" [(.var 1), (.int 3)] 0)]) [(.asgF 10 (.call "_law_draw" [(.var 1), (.bin .add (.bi .len [(.var 4)]) (.int 1))] 0)), (.asgF 11 (.ite (.or (.opx opEqNil [(.var 4), (.lst [])]) (.cmp .gt (.call "_law_draw" [(.var 1), (.int 3)] 0) (.int 0))) (.call "_law_odd" [(.var 1), (.var 3)] 0) (.call "_law_pick" [(.var 1), (.var 4)] 0))), (.asgF 4 (.bin .add (.bin .add (.sli (.var 4) none (some (.var 10))) (.lst [(.var 11)])) (.sli (.var 4) (some (.bin .add (.var 10) (.call "_law_draw" [(.var 1), (.int 2)] 0))) none)))]), (.par [12, 13] [(.bi .repr [(.var 4)]), (.call "_law_first_bad" [(.var 4)] 0)]), (.asg 6 (.lst [(.lam "_law_index" [4] (.call "Account" [(.var 4)] 0))])), (.app 6 (.lam "_law_index" [4] (.call "Account" [(.bi .tuple [(.var 4)])] 0))), (.ite (.not (.call "_law_same" [(.var 6), (.bin .rep (.lst [(.var 13)]) (.int 2))] 0)) [(.ret (.bl false))] []), (.ite (.cmp .ne (.bi .repr [(.var 4)]) (.var 12)) [(.ret (.bl false))] []), (.asgF 7 (.ite (.cmp .isn (.var 13) .non) (.call "_law_draw" [(.var 1), (.bin .add (.bi .len [(.var 4)]) (.int 1))] 0) (.call "_law_draw" [(.var 1), (.bin .add (.var 13) (.int 1))] 0))), (.asgF 8 (.call "Account" [(.sli (.var 4) none (some (.var 7)))] 0)), (.ite (.or (.not (.call "_law_same" [(.lam "_law_index" [4, 7, 8] (.mth "Account" (.var 8) "further" [(.sli (.var 4) (some (.var 7)) none)] 0)), (.var 13)] 0)) (.cmp .ne (.opx opLen [(.mth "Account" (.var 8) "__len__" [] 0)]) (.var 7))) [(.ret (.bl false))] []), (.ite (.and (.cmp .isn (.var 13) .non) (.oeq "Account" true (.mth "Account" (.var 8) "further" [(.bi .tuple [(.sli (.var 4) (some (.var 7)) none)])] 0) (.call "Account" [(.var 4)] 0))) [(.ret (.bl false))] []), (.asgF 9 (.call "_law_pick" [(.var 1), (.lst [.non, (.int 5), (.str "days"), (.dct [] []), (.bl true)])] 0)), (.asg 6 (.lst [(.lam "_law_index" [9] (.call "Account" [(.var 9)] 0))])), (.app 6 (.lam "_law_index" [8, 9] (.mth "Account" (.var 8) "further" [(.var 9)] 0))), (.ite (.not (.call "_law_same" [(.var 6), (.lst [(.int 0), (.var 7)])] 0)) [(.ret (.bl false))] [])]), (.ret (.bl true))]
def conFurtherX : Con := fun as c K e => ∃ row d, as = [some (accD row), some d] ∧ ValidRow row ∧ ((isListD d = false ∧ bltTy (tyD d) = true ∧ e (bdX row.length) c) ∨ ∃ xs, (d = .lst xs ∨ d = .tup xs) ∧ (∀ x ∈ xs, OkDeed x) ∧ row.length + xs.length ≤ 100000 ∧ (chk [] [] 0 (row.map Deed.d ++ xs) = none → K (.fz (accD (rowOf (row.map Deed.d ++ xs)))) c) ∧ ∀ i, chk [] [] 0 (row.map Deed.d ++ xs) = some i → e (bdX i) c)
theorem p_furtherX {Γ : Env} (h1 : Γ.fn "is_list" = some (.pl conIsList true [])) (h2 : Γ.mth "Account" "row" = some (.pl conRowOf false [])) (h3 : Γ.fn "Account" = some (.pl conMkX false [.kt []])) : ImplX Γ 2 conFurtherX c_Account_furtherX := by
  intro as c K e h
  obtain ⟨row, d, rfl, hv, h⟩ := h
  have sb := sizeLine_big
  rcases h with ⟨hl, ht, he⟩ | ⟨xs, hd, ok, hz, hk, he⟩
  · ((repeat (first | ((conv => whnf); refine And.intro (by first | exact rfl | exact trivial | exact ⟨rfl, rfl⟩ | exact ⟨rfl, strs_scal _⟩ | exact ⟨trivial, trivial⟩ | assumption | decide | exact Nat.le_of_ble_eq_true rfl | omega) ?_) | ((conv => whnf); first | rw [h1]))); try (conv => whnf))
    refine ⟨d, rfl, ht, fun _ => rfl, ?_⟩
    rw [hl]
    ((repeat ((conv => whnf); refine And.intro (by first | exact rfl | exact trivial | exact ⟨rfl, rfl⟩ | exact ⟨rfl, strs_scal _⟩ | exact ⟨trivial, trivial⟩ | assumption | decide | exact Nat.le_of_ble_eq_true rfl | omega) ?_)); try (conv => whnf))
    have e1 : (row.map Deed.d).length = row.length := List.length_map ..
    have q : e ("BadDeed", [("index", .int ((row.map Deed.d).length : Nat))]) c := by rw [e1]; exact he
    exact q
  · have ht : bltTy (tyD d) = true ∧ isListD d = true := by rcases hd with rfl | rfl <;> exact ⟨rfl, rfl⟩
    ((repeat (first | ((conv => whnf); refine And.intro (by first | exact rfl | exact trivial | exact ⟨rfl, rfl⟩ | exact ⟨rfl, strs_scal _⟩ | exact ⟨trivial, trivial⟩ | assumption | decide | exact Nat.le_of_ble_eq_true rfl | omega) ?_) | ((conv => whnf); first | rw [h1]))); try (conv => whnf))
    refine ⟨d, rfl, ht.1, fun _ => rfl, ?_⟩
    rw [ht.2]
    ((repeat (first | ((conv => whnf); refine And.intro (by first | exact rfl | exact trivial | exact ⟨rfl, rfl⟩ | exact ⟨rfl, strs_scal _⟩ | exact ⟨trivial, trivial⟩ | assumption | decide | exact Nat.le_of_ble_eq_true rfl | omega) ?_) | ((conv => whnf); first | rw [h3] | rw [h2]))); try (conv => whnf))
    refine ⟨row, rfl, (fun e => (by cases e)), ?_⟩
    rcases hd with rfl | rfl
    all_goals
      ((repeat (first | ((conv => whnf); refine And.intro (by first | exact rfl | exact trivial | exact ⟨rfl, rfl⟩ | exact ⟨rfl, strs_scal _⟩ | exact ⟨trivial, trivial⟩ | assumption | decide | exact Nat.le_of_ble_eq_true rfl | omega) ?_) | ((conv => whnf); first | rw [h3]))); try (conv => whnf))
      refine And.intro (show (row.map Deed.d).length + xs.length ≤ sizeLine by rw [List.length_map]; omega) ?_
      ((repeat (first | ((conv => whnf); refine And.intro (by first | exact rfl | exact trivial | exact ⟨rfl, rfl⟩ | exact ⟨rfl, strs_scal _⟩ | exact ⟨trivial, trivial⟩ | assumption | decide | exact Nat.le_of_ble_eq_true rfl | omega) ?_) | ((conv => whnf); first | rw [h3]))); try (conv => whnf))
      refine ⟨_, rfl, .inr ⟨row.map Deed.d ++ xs, .inl rfl, ?_, ?_, fun h => ⟨(fun e => (by cases e)), hk h⟩, fun i h => ⟨(fun e => (by cases e)), he i h⟩⟩⟩
      · intro x hx
        rcases List.mem_append.mp hx with q | q
        · obtain ⟨d, hd, rfl⟩ := List.mem_map.mp q
          exact okDeed_d (hv.ok d hd)
        · exact ok x q
      · rw [List.length_append, List.length_map]; exact hz
theorem rep03 {xs : List D} (h : ∀ x ∈ xs, Sp x) (hl : xs.length ≤ 100) : reprOk (.lst xs) = true ∧ (ps (.lst xs)).shown.length ≤ sizeLine :=
  (Shw.lst fun x hx => (h x hx).sh).repr (by omega) (by omega)
theorem idx03 (o : Option Nat) (h : ∀ i, o = some i → i ≤ 100) : Shw 0 0 (idxD o) := by
  cases o with
  | none => exact shw_non3
  | some i =>
    have := h i rfl
    exact Shw.int (by omega) (by
      have : (100 : Int) < 10 ^ 110 := by decide
      omega)
theorem chk_lt : ∀ (xs : List D) (op cn : List Str) (k i : Nat), chk op cn k xs = some i → k ≤ i ∧ i < k + xs.length
  | [], _, _, _, _, h => by cases h
  | x :: xs, op, cn, k, i, h => by
    rw [List.length_cons]
    have go : ∀ op' cn', chk op' cn' (k + 1) xs = some i → k ≤ i ∧ i < k + (xs.length + 1) := fun op' cn' h => by
      have := chk_lt xs op' cn' (k + 1) i h
      omega
    have here : ∀ {k' : Nat}, some k = some i → k ≤ i ∧ i < k + (xs.length + 1) := fun {_} h => by cases h; omega
    unfold chk at h
    cases hd : deedP x with
    | none => rw [hd] at h; exact here (k' := 0) h
    | some d =>
      rw [hd] at h
      have h : chkD op cn k d (fun op' cn' => chk op' cn' (k + 1) xs) = some i := h
      cases d with
      | op m n =>
        by_cases q : m ∈ op
        · exact here (k' := 0) (by rw [← h]; exact (if_pos q).symm)
        · exact go _ _ (by rw [← h]; exact (if_neg q).symm)
      | back m =>
        by_cases q : m ∈ cn
        · exact go _ _ (by rw [← h]; exact (if_pos q).symm)
        · exact here (k' := 0) (by rw [← h]; exact (if_neg q).symm)
      | days n => exact go _ _ h
      | pause n => exact go _ _ h
/-- what stands ahead of the cut stands -/
theorem chk_take : ∀ (xs ys : List D) (op cn : List Str) (k : Nat), (∀ i, chk op cn k (xs ++ ys) = some i → k + xs.length ≤ i) → chk op cn k xs = none
  | [], _, _, _, _, _ => rfl
  | x :: xs, ys, op, cn, k, h => by
    have go : ∀ op' cn', (∀ i, chk op' cn' (k + 1) (xs ++ ys) = some i → k + (xs.length + 1) ≤ i) → chk op' cn' (k + 1) xs = none := fun op' cn' h => chk_take xs ys op' cn' (k + 1) fun i hi => by have := h i hi; omega
    rw [List.cons_append, List.length_cons] at h
    have bad : ¬ chk op cn k (x :: (xs ++ ys)) = some k := fun q => by have := h k q; omega
    unfold chk at h bad ⊢
    cases hd : deedP x with
    | none => rw [hd] at bad; exact absurd rfl bad
    | some d =>
      rw [hd] at h bad
      have h : ∀ i, chkD op cn k d (fun op' cn' => chk op' cn' (k + 1) (xs ++ ys)) = some i → k + (xs.length + 1) ≤ i := h
      have bad : ¬ chkD op cn k d (fun op' cn' => chk op' cn' (k + 1) (xs ++ ys)) = some k := bad
      show chkD op cn k d (fun op' cn' => chk op' cn' (k + 1) xs) = none
      cases d with
      | op m n =>
        by_cases q : m ∈ op
        · exact absurd (if_pos q) bad
        · exact (if_neg q).trans (go _ _ fun i hi => h i ((if_neg q).trans hi))
      | back m =>
        by_cases q : m ∈ cn
        · exact (if_pos q).trans (go _ _ fun i hi => h i ((if_pos q).trans hi))
        · exact absurd (if_neg q) bad
      | days n => exact go _ _ h
      | pause n => exact go _ _ h
/-- the deeds of what stands, in place of it -/
theorem chk_same : ∀ (xs ys : List D) (op cn : List Str) (k : Nat), chk op cn k xs = none → chk op cn k ((rowOf xs).map Deed.d ++ ys) = chk op cn k (xs ++ ys)
  | [], _, _, _, _, _ => rfl
  | x :: xs, ys, op, cn, k, h => by
    unfold chk at h
    cases hd : deedP x with
    | none => rw [hd] at h; cases h
    | some d =>
      rw [hd] at h
      have h : chkD op cn k d (fun op' cn' => chk op' cn' (k + 1) xs) = none := h
      have hr : rowOf (x :: xs) = d :: rowOf xs := List.filterMap_cons_some hd
      rw [hr, List.map_cons, List.cons_append, List.cons_append]
      have e : deedP d.d = some d := deedP_d (deedP_ok hd).1
      rw [chk, chk, e, hd]
      show chkD op cn k d (fun op' cn' => chk op' cn' (k + 1) ((rowOf xs).map Deed.d ++ ys)) = chkD op cn k d (fun op' cn' => chk op' cn' (k + 1) (xs ++ ys))
      cases d with
      | op m n =>
        by_cases q : m ∈ op
        · exact absurd ((if_pos q).symm.trans h) (by simp)
        · exact (if_neg q).trans ((chk_same xs ys _ _ _ ((if_neg q).symm.trans h)).trans (if_neg q).symm)
      | back m =>
        by_cases q : m ∈ cn
        · exact (if_pos q).trans ((chk_same xs ys _ _ _ ((if_pos q).symm.trans h)).trans (if_pos q).symm)
        · exact absurd ((if_neg q).symm.trans h) (by simp)
      | days n => exact chk_same xs ys _ _ _ h
      | pause n => exact chk_same xs ys _ _ _ h
theorem rowOf_same : ∀ (xs ys : List D), rowOf ((rowOf xs).map Deed.d ++ ys) = rowOf (xs ++ ys)
  | [], _ => rfl
  | x :: xs, ys => by
    cases hd : deedP x with
    | none => rw [show rowOf (x :: xs) = rowOf xs from List.filterMap_cons_none hd, List.cons_append, show rowOf (x :: (xs ++ ys)) = rowOf (xs ++ ys) from List.filterMap_cons_none hd]; exact rowOf_same xs ys
    | some d =>
      rw [show rowOf (x :: xs) = d :: rowOf xs from List.filterMap_cons_some hd, List.map_cons, List.cons_append, List.cons_append, show rowOf (x :: (xs ++ ys)) = d :: rowOf (xs ++ ys) from List.filterMap_cons_some hd, show rowOf (d.d :: ((rowOf xs).map Deed.d ++ ys)) = d :: rowOf ((rowOf xs).map Deed.d ++ ys) from List.filterMap_cons_some (deedP_d (deedP_ok hd).1), rowOf_same xs ys]
theorem cut_from' (xs : List D) (a : Nat) : cutD xs (some (a : Int)) none = xs.drop a := by
  by_cases h : a ≤ xs.length
  · exact cut_from xs h
  · have e1 : HT.sIx xs.length 0 (some (a : Int)) = xs.length := by
      rw [HT.sIx_nat]; omega
    have e2 : HT.sIx xs.length xs.length none = xs.length := rfl
    unfold cutD
    rw [e1, e2, List.drop_of_length_le (by omega), List.drop_of_length_le (by omega)]
    simp
theorem in_last {Γ : Env} (h1 : Γ.fn "_law_draw" = some (.pl conDrawN true [])) {xs : List D} {x : D} {a : Nat} (ha : a ≤ xs.length) (xl : xs.length ≤ 1000) {o2 o3 o5 o6 o7 o8 o9 o12 o13 : Option P} {c : Stm} (hc : c.c < 1000000) {n : En}
    (hk : ∀ (d : Nat) c', d < 2 → Stm.c c' = c.c + 1 → n.nx ⟨[none, some .stm, o2, o3, some (.fz (.lst (xs.take a ++ [x] ++ xs.drop (a + d)))), o5, o6, o7, o8, o9, some (.fz (.int (a : Int))), some (.fz x), o12, o13], c'⟩) :
    exSs Γ [(.asgF 4 (.bin .add (.bin .add (.sli (.var 4) none (some (.var 10))) (.lst [(.var 11)])) (.sli (.var 4) (some (.bin .add (.var 10) (.call "_law_draw" [(.var 1), (.int 2)] 0))) none)))] n ⟨[none, some .stm, o2, o3, some (.fz (.lst xs)), o5, o6, o7, o8, o9, some (.fz (.int (a : Int))), some (.fz x), o12, o13], c⟩ := by
  have sb := sizeLine_big
  have tl : (xs.take a).length + 1 ≤ 1001 := by rw [List.length_take]; omega
  (conv => whnf)
  refine And.intro (Nat.le_of_ble_eq_true rfl) ?_
  rw [cut_to xs ha]
  (conv => whnf)
  refine And.intro (show (xs.take a).length + 1 ≤ sizeLine by omega) ?_
  (conv => whnf)
  rw [h1]
  (conv => whnf)
  refine ⟨2, rfl, by decide, by decide, hc, fun i c2 g0 g1 hc2 => ⟨fun _ => rfl, ?_⟩⟩
  obtain ⟨d, rfl⟩ : ∃ d : Nat, i = (d : Int) := ⟨i.toNat, by omega⟩
  have ec : cutD xs (some ((a : Int) + (d : Int))) none = xs.drop (a + d) := by
    rw [show (a : Int) + (d : Int) = ((a + d : Nat) : Int) by omega]
    exact cut_from' xs (a + d)
  have dl : (xs.drop (a + d)).length ≤ 1000 := by rw [List.length_drop]; omega
  (conv => whnf)
  rw [ec]
  refine And.intro (show (xs.take a ++ [x]).length + (xs.drop (a + d)).length ≤ sizeLine by rw [List.length_append, List.length_singleton]; omega) ?_
  exact And.intro rfl (hk d c2 (by omega) hc2)
def inB : List Sx := [(.asgF 10 (.call "_law_draw" [(.var 1), (.bin .add (.bi .len [(.var 4)]) (.int 1))] 0)), (.asgF 11 (.ite (.or (.opx opEqNil [(.var 4), (.lst [])]) (.cmp .gt (.call "_law_draw" [(.var 1), (.int 3)] 0) (.int 0))) (.call "_law_odd" [(.var 1), (.var 3)] 0) (.call "_law_pick" [(.var 1), (.var 4)] 0))), (.asgF 4 (.bin .add (.bin .add (.sli (.var 4) none (some (.var 10))) (.lst [(.var 11)])) (.sli (.var 4) (some (.bin .add (.var 10) (.call "_law_draw" [(.var 1), (.int 2)] 0))) none)))]
theorem in_step {Γ : Env} (h1 : Γ.fn "_law_draw" = some (.pl conDrawN true [])) (h2 : Γ.fn "_law_pick" = some (.pl conPick false [])) (h5 : Γ.fn "_law_odd" = some (.pl conOdd03 false [])) {xs : List D} {pool : List Str} (sp : ∀ x ∈ xs, Sp x) (xl : xs.length ≤ 1000) (pne : pool ≠ []) (pl : pool.length ≤ 1000) (pm : ∀ m ∈ pool, MarkOk m) {o2 o5 o6 o7 o8 o9 o10 o11 o12 o13 : Option P} (i10 : isIo o10 = false) (i11 : isIo o11 = false) {c : Stm} (hc : c.c + 10 < 1000000) {n : En}
    (hk : ∀ ys c' o10 o11, (∀ x ∈ ys, Sp x) → ys.length ≤ xs.length + 1 → isIo o10 = false → isIo o11 = false → Stm.c c' ≤ c.c + 10 → n.nx ⟨[none, some .stm, o2, some (.fz (.lst (pool.map D.str))), some (.fz (.lst ys)), o5, o6, o7, o8, o9, o10, o11, o12, o13], c'⟩) :
    exSs Γ inB n ⟨[none, some .stm, o2, some (.fz (.lst (pool.map D.str))), some (.fz (.lst xs)), o5, o6, o7, o8, o9, o10, o11, o12, o13], c⟩ := by
  have sb := sizeLine_big
  (conv => whnf)
  rw [h1]
  (conv => whnf)
  refine ⟨(xs.length : Int) + 1, rfl, by omega, by
    have : (1001 : Int) ≤ 10 ^ 100 := by decide
    omega, show c.c < 1000000 by omega, fun i c7 g0 g1 hc7 => ⟨fun _ => rfl, ?_⟩⟩
  have hc7 : c7.c = c.c + 1 := hc7
  obtain ⟨a, rfl⟩ : ∃ a : Nat, i = (a : Int) := ⟨i.toNat, by omega⟩
  have ha : a ≤ xs.length := by omega
  refine And.intro i10 ?_
  have post : ∀ x c8, Sp x → Stm.c c8 ≤ c7.c + 3 → exSs Γ [(.asgF 4 (.bin .add (.bin .add (.sli (.var 4) none (some (.var 10))) (.lst [(.var 11)])) (.sli (.var 4) (some (.bin .add (.var 10) (.call "_law_draw" [(.var 1), (.int 2)] 0))) none)))] n ⟨[none, some .stm, o2, some (.fz (.lst (pool.map D.str))), some (.fz (.lst xs)), o5, o6, o7, o8, o9, some (.fz (.int (a : Int))), some (.fz x), o12, o13], c8⟩ := fun x c8 sx hc8 => by
    refine in_last h1 ha xl (by omega) fun d c' hd hc' => (hk _ c' _ _ ?_ ?_ rfl rfl (by omega))
    · intro y hy
      rcases List.mem_append.mp hy with hy | hy
      · rcases List.mem_append.mp hy with hy | hy
        · exact sp y (List.mem_of_mem_take hy)
        · rw [List.mem_singleton.mp hy]; exact sx
      · exact sp y (List.mem_of_mem_drop hy)
    · rw [List.length_append, List.length_append, List.length_take, List.length_drop, List.length_singleton]; omega
  have odd : ∀ c8 : Stm, c8.c ≤ c7.c + 1 → conOdd03 [none, some (.lst (pool.map D.str))] c8 (fun r c9 => ∃ x, r = .fz x ∧ Sp x ∧ c9.c ≤ c7.c + 3) (fun _ _ => False) := fun c8 h8 => ⟨pool, rfl, pne, by omega, pm, by omega, fun x c9 sx h9 => ⟨x, rfl, sx, by omega⟩⟩
  cases xs with
  | nil =>
    (conv => whnf)
    refine And.intro (Nat.zero_le _) ?_
    (conv => whnf)
    refine And.intro trivial ?_
    (conv => whnf)
    rw [h5]
    (conv => whnf)
    refine ⟨pool, rfl, pne, by omega, pm, show c7.c + 2 < 1000000 by omega, fun x c8 sx hc8 => ⟨(fun e => (by cases e)), ?_⟩⟩
    have hc8 : c8.c = c7.c + 2 := hc8
    refine And.intro i11 ?_
    have hp := post x c8 sx (by omega)
    exact hp
  | cons x0 xs =>
    (conv => whnf)
    refine And.intro (Nat.zero_le _) ?_
    (conv => whnf)
    refine And.intro trivial ?_
    (conv => whnf)
    rw [h1]
    (conv => whnf)
    refine ⟨3, rfl, by decide, by decide, show c7.c < 1000000 by omega, fun k3 c8 g2 g3 hc8 => ⟨fun _ => rfl, ?_⟩⟩
    have hc8 : c8.c = c7.c + 1 := hc8
    by_cases k0 : 0 < k3
    · (conv => whnf)
      rw [show decide ((0 : Int) < k3) = true from decide_eq_true k0]
      (conv => whnf)
      refine And.intro trivial ?_
      (conv => whnf)
      rw [h5]
      (conv => whnf)
      refine ⟨pool, rfl, pne, by omega, pm, show c8.c + 2 < 1000000 by omega, fun x c9 sx hc9 => ⟨(fun e => (by cases e)), ?_⟩⟩
      have hc9 : c9.c = c8.c + 2 := hc9
      refine And.intro i11 ?_
      have hp := post x c9 sx (by omega)
      exact hp
    · (conv => whnf)
      rw [show decide ((0 : Int) < k3) = false from decide_eq_false k0]
      (conv => whnf)
      refine And.intro trivial ?_
      (conv => whnf)
      rw [h2]
      (conv => whnf)
      refine ⟨x0 :: xs, rfl, by simp, by omega, show c8.c < 1000000 by omega, fun x c9 hx hc9 => ⟨(fun e => (by cases e)), ?_⟩⟩
      have hc9 : c9.c = c8.c + 1 := hc9
      refine And.intro i11 ?_
      have hp := post x c9 (sp x hx) (by omega)
      exact hp
section
variable {Γ : Env} (h1 : Γ.fn "_law_draw" = some (.pl conDrawN true [])) (h2 : Γ.fn "_law_pick" = some (.pl conPick false [])) (h6 : Γ.fn "_law_first_bad" = some (.pl conFirstBad false [])) (h7 : Γ.fn "Account" = some (.pl conMkX false [.kt []])) (h8 : Γ.fn "_law_same" = some (.pl conSame true [])) (h9 : Γ.mth "Account" "further" = some (.pl conFurtherX false [])) (h10 : Γ.mth "Account" "__len__" = some (.pl conLen false [])) (h11 : Γ.mth "Account" "__eq__" = some (.pl conEq false [])) (h12 : Γ.ask "_law_index" = some (askB "BadDeed" "index"))
variable {o2 o3 o5 o6 o7 o8 o9 o10 o11 o12 o13 : Option P} {c : Stm} {n : En} {rest : List Sx} {xs : List D}
def bad (xs : List D) : Option Nat := chk [] [] 0 xs
def shwn (xs : List D) : Str := (ps (D.lst xs)).shown
include h6 in
theorem t0 (sp : ∀ x ∈ xs, Sp x) (xl : xs.length ≤ 20) (i12 : isIo o12 = false) (i13 : isIo o13 = false) (hk : exSs Γ rest n ⟨[none, some .stm, o2, o3, some (.fz (.lst xs)), o5, o6, o7, o8, o9, o10, o11, some (.fz (.str (shwn xs))), some (.fz (idxD (bad xs)))], c⟩) : exSs Γ ((.par [12, 13] [(.bi .repr [(.var 4)]), (.call "_law_first_bad" [(.var 4)] 0)]) :: rest) n ⟨[none, some .stm, o2, o3, some (.fz (.lst xs)), o5, o6, o7, o8, o9, o10, o11, o12, o13], c⟩ := by
  have rp := rep03 sp (by omega)
  (conv => whnf)
  refine And.intro rp ?_
  (conv => whnf)
  rw [h6]
  (conv => whnf)
  refine ⟨xs, rfl, fun x hx => (sp x hx).ok, by omega, (fun e => (by cases e)), ?_⟩
  (conv => whnf)
  refine And.intro i13 ?_
  (conv => whnf)
  refine And.intro i12 ?_
  exact hk
include h7 h12 in
theorem t1 (sp : ∀ x ∈ xs, Sp x) (xl : xs.length ≤ 20) (i6 : isIo o6 = false) (hk : exSs Γ rest n ⟨[none, some .stm, o2, o3, some (.fz (.lst xs)), o5, some (.own [idxD (bad xs)]), o7, o8, o9, o10, o11, o12, o13], c⟩) : exSs Γ ((.asg 6 (.lst [(.lam "_law_index" [4] (.call "Account" [(.var 4)] 0))])) :: rest) n ⟨[none, some .stm, o2, o3, some (.fz (.lst xs)), o5, o6, o7, o8, o9, o10, o11, o12, o13], c⟩ := by
  have okx : ∀ x ∈ xs, OkDeed x := fun x hx => (sp x hx).ok
  ((repeat (first | ((conv => whnf); refine And.intro (by first | exact rfl | exact trivial | exact ⟨rfl, rfl⟩ | exact ⟨rfl, strs_scal _⟩ | exact ⟨trivial, trivial⟩ | assumption | decide | exact Nat.le_of_ble_eq_true rfl | omega) ?_) | ((conv => whnf); first | rw [h12] | rw [h7]))); try (conv => whnf))
  refine ⟨.lst xs, rfl, .inr ⟨xs, .inl rfl, okx, by omega, fun hn => ⟨(fun e => (by cases e)), ?_⟩, fun i hi => ⟨(fun e => (by cases e)), ?_⟩⟩⟩
  · have e : bad xs = none := hn
    rw [e] at hk
    (conv => whnf)
    refine And.intro (Nat.le_of_ble_eq_true rfl) ?_
    exact And.intro i6 hk
  · have e : bad xs = some i := hi
    rw [e] at hk
    (conv => whnf)
    refine And.intro (Nat.le_of_ble_eq_true rfl) ?_
    exact And.intro i6 hk
include h7 h12 in
theorem t2 (sp : ∀ x ∈ xs, Sp x) (xl : xs.length ≤ 20) {y : D} (hk : exSs Γ rest n ⟨[none, some .stm, o2, o3, some (.fz (.lst xs)), o5, some (.own [y, idxD (bad xs)]), o7, o8, o9, o10, o11, o12, o13], c⟩) : exSs Γ ((.app 6 (.lam "_law_index" [4] (.call "Account" [(.bi .tuple [(.var 4)])] 0))) :: rest) n ⟨[none, some .stm, o2, o3, some (.fz (.lst xs)), o5, some (.own [y]), o7, o8, o9, o10, o11, o12, o13], c⟩ := by
  have okx : ∀ x ∈ xs, OkDeed x := fun x hx => (sp x hx).ok
  ((repeat (first | ((conv => whnf); refine And.intro (by first | exact rfl | exact trivial | exact ⟨rfl, rfl⟩ | exact ⟨rfl, strs_scal _⟩ | exact ⟨trivial, trivial⟩ | assumption | decide | exact Nat.le_of_ble_eq_true rfl | omega) ?_) | ((conv => whnf); first | rw [h12] | rw [h7]))); try (conv => whnf))
  refine ⟨.tup xs, rfl, .inr ⟨xs, .inr (.inl rfl), okx, by omega, fun hn => ⟨(fun e => (by cases e)), ?_⟩, fun i hi => ⟨(fun e => (by cases e)), ?_⟩⟩⟩
  · have e : bad xs = none := hn
    rw [e] at hk
    (conv => whnf)
    refine And.intro (Nat.le_of_ble_eq_true rfl) ?_
    exact hk
  · have e : bad xs = some i := hi
    rw [e] at hk
    (conv => whnf)
    refine And.intro (Nat.le_of_ble_eq_true rfl) ?_
    exact hk
theorem two_rep {y z : D} (hy : Shw 0 0 y) (hz : Shw 0 0 z) : reprOk (.lst [y, z]) = true ∧ (ps (.lst [y, z])).shown.length ≤ sizeLine :=
  (Shw.lst (b := 0) (k := 0) (xs := [y, z]) fun x hx => by
    simp only [List.mem_cons, List.mem_nil_iff, or_false] at hx
    rcases hx with rfl | rfl
    · exact hy
    · exact hz).repr (show (0 + 1) * 2 ≤ 20000 by decide) (show 0 + 1 ≤ 60 by decide)
theorem bad_shw (xl : xs.length ≤ 20) : Shw 0 0 (idxD (bad xs)) := idx03 _ fun i hi => by
  have := chk_lt xs [] [] 0 i hi
  omega
include h8 in
theorem t3 (xl : xs.length ≤ 20) (hk : exSs Γ rest n ⟨[none, some .stm, o2, o3, some (.fz (.lst xs)), o5, some (.own [idxD (bad xs), idxD (bad xs)]), o7, o8, o9, o10, o11, o12, some (.fz (idxD (bad xs)))], c⟩) : exSs Γ ((.ite (.not (.call "_law_same" [(.var 6), (.bin .rep (.lst [(.var 13)]) (.int 2))] 0)) [(.ret (.bl false))] []) :: rest) n ⟨[none, some .stm, o2, o3, some (.fz (.lst xs)), o5, some (.own [idxD (bad xs), idxD (bad xs)]), o7, o8, o9, o10, o11, o12, some (.fz (idxD (bad xs)))], c⟩ := by
  have r2 := two_rep (bad_shw xl) (bad_shw xl)
  generalize idxD (bad xs) = b at hk r2 ⊢
  ((repeat (first | ((conv => whnf); refine And.intro (by first | exact rfl | exact trivial | exact ⟨rfl, rfl⟩ | exact ⟨rfl, strs_scal _⟩ | exact ⟨trivial, trivial⟩ | assumption | decide | exact Nat.le_of_ble_eq_true rfl | omega) ?_) | ((conv => whnf); first | rw [h8]))); try (conv => whnf))
  refine And.intro ⟨by decide, by decide, Nat.le_of_ble_eq_true rfl⟩ ?_
  ((repeat (first | ((conv => whnf); refine And.intro (by first | exact rfl | exact trivial | exact ⟨rfl, rfl⟩ | exact ⟨rfl, strs_scal _⟩ | exact ⟨trivial, trivial⟩ | assumption | decide | exact Nat.le_of_ble_eq_true rfl | omega) ?_) | ((conv => whnf); first | rw [h8]))); try (conv => whnf))
  refine ⟨.lst [b, b], .lst [b, b], rfl, r2, r2, fun _ => rfl, ?_⟩
  rw [decide_eq_true rfl]
  ((repeat ((conv => whnf); refine And.intro (by first | exact rfl | exact trivial | exact ⟨rfl, rfl⟩ | exact ⟨rfl, strs_scal _⟩ | exact ⟨trivial, trivial⟩ | assumption | decide | exact Nat.le_of_ble_eq_true rfl | omega) ?_)); try (conv => whnf))
  exact hk
theorem t4 (sp : ∀ x ∈ xs, Sp x) (xl : xs.length ≤ 20) (hk : exSs Γ rest n ⟨[none, some .stm, o2, o3, some (.fz (.lst xs)), o5, o6, o7, o8, o9, o10, o11, some (.fz (.str (shwn xs))), o13], c⟩) : exSs Γ ((.ite (.cmp .ne (.bi .repr [(.var 4)]) (.var 12)) [(.ret (.bl false))] []) :: rest) n ⟨[none, some .stm, o2, o3, some (.fz (.lst xs)), o5, o6, o7, o8, o9, o10, o11, some (.fz (.str (shwn xs))), o13], c⟩ := by
  have rp := rep03 sp (by omega)
  (conv => whnf)
  refine And.intro rp ?_
  (conv => whnf)
  rw [show decide (toV (R.fz (D.str (ps (D.lst xs)).shown)).d = toV (D.str (shwn xs))) = true from decide_eq_true rfl]
  refine And.intro trivial ?_
  exact hk
include h1 in
theorem t5 (xl : xs.length ≤ 20) (hc : c.c < 1000000) (i7 : isIo o7 = false) (hk : ∀ (cu : Nat) c', cu ≤ xs.length → (∀ i, bad xs = some i → cu ≤ i) → Stm.c c' = c.c + 1 → exSs Γ rest n ⟨[none, some .stm, o2, o3, some (.fz (.lst xs)), o5, o6, some (.fz (.int (cu : Int))), o8, o9, o10, o11, o12, some (.fz (idxD (bad xs)))], c'⟩) : exSs Γ ((.asgF 7 (.ite (.cmp .isn (.var 13) .non) (.call "_law_draw" [(.var 1), (.bin .add (.bi .len [(.var 4)]) (.int 1))] 0) (.call "_law_draw" [(.var 1), (.bin .add (.var 13) (.int 1))] 0))) :: rest) n ⟨[none, some .stm, o2, o3, some (.fz (.lst xs)), o5, o6, o7, o8, o9, o10, o11, o12, some (.fz (idxD (bad xs)))], c⟩ := by
  have sb := sizeLine_big
  have big : (1000 : Int) < 10 ^ 100 := by decide
  cases hb : bad xs with
  | none =>
    rw [hb] at hk
    (conv => whnf)
    refine And.intro trivial ?_
    (conv => whnf)
    rw [h1]
    (conv => whnf)
    refine ⟨(xs.length : Int) + 1, rfl, by omega, by omega, hc, fun i c7 g0 g1 hc7 => ⟨fun _ => rfl, ?_⟩⟩
    obtain ⟨a, rfl⟩ : ∃ a : Nat, i = (a : Int) := ⟨i.toNat, by omega⟩
    refine And.intro i7 ?_
    have hp := hk a c7 (by omega) (fun i e => by cases e) hc7
    exact hp
  | some i0 =>
    rw [hb] at hk
    have := chk_lt xs [] [] 0 i0 hb
    (conv => whnf)
    refine And.intro trivial ?_
    (conv => whnf)
    rw [h1]
    (conv => whnf)
    refine ⟨(i0 : Int) + 1, rfl, by omega, by omega, hc, fun i c7 g0 g1 hc7 => ⟨fun _ => rfl, ?_⟩⟩
    obtain ⟨a, rfl⟩ : ∃ a : Nat, i = (a : Int) := ⟨i.toNat, by omega⟩
    refine And.intro i7 ?_
    have hp := hk a c7 (by omega) (fun i e => by cases e; omega) hc7
    exact hp
theorem cut_ok {cu : Nat} (xl : xs.length ≤ 20) (hl : cu ≤ xs.length) (hb : ∀ i, bad xs = some i → cu ≤ i) : chk [] [] 0 (xs.take cu) = none ∧ ValidRow (rowOf (xs.take cu)) ∧ (rowOf (xs.take cu)).length = cu ∧ chk [] [] 0 ((rowOf (xs.take cu)).map Deed.d ++ xs.drop cu) = bad xs ∧ rowOf ((rowOf (xs.take cu)).map Deed.d ++ xs.drop cu) = rowOf xs := by
  have tl : (xs.take cu).length = cu := by rw [List.length_take]; omega
  have e : xs.take cu ++ xs.drop cu = xs := List.take_append_drop ..
  have h1 : chk [] [] 0 (xs.take cu) = none := chk_take (xs.take cu) (xs.drop cu) [] [] 0 fun i hi => by
    rw [e] at hi
    have := hb i hi
    omega
  obtain ⟨v, ds⟩ := chk_ok (by omega) h1
  have l := ds.len
  refine ⟨h1, v, by omega, ?_, ?_⟩
  · rw [chk_same _ _ _ _ _ h1, e]; rfl
  · rw [rowOf_same, e]
include h7 in
theorem t6 {cu : Nat} (sp : ∀ x ∈ xs, Sp x) (xl : xs.length ≤ 20) (hl : cu ≤ xs.length) (hb : ∀ i, bad xs = some i → cu ≤ i) (i8 : isIo o8 = false) (hk : exSs Γ rest n ⟨[none, some .stm, o2, o3, some (.fz (.lst xs)), o5, o6, some (.fz (.int (cu : Int))), some (.fz (accD (rowOf (xs.take cu)))), o9, o10, o11, o12, o13], c⟩) : exSs Γ ((.asgF 8 (.call "Account" [(.sli (.var 4) none (some (.var 7)))] 0)) :: rest) n ⟨[none, some .stm, o2, o3, some (.fz (.lst xs)), o5, o6, some (.fz (.int (cu : Int))), o8, o9, o10, o11, o12, o13], c⟩ := by
  obtain ⟨k1, k2, k3, k4, k5⟩ := cut_ok xl hl hb
  (conv => whnf)
  rw [h7]
  (conv => whnf)
  rw [cut_to xs hl]
  refine ⟨.lst (xs.take cu), rfl, .inr ⟨xs.take cu, .inl rfl, fun x hx => (sp x (List.mem_of_mem_take hx)).ok, by rw [List.length_take]; omega, fun hn => ⟨(fun e => (by cases e)), ?_⟩, fun i hi => absurd (k1.symm.trans hi) (by simp)⟩⟩
  exact And.intro i8 hk
include h8 h9 h10 h12 in
theorem t7 {cu : Nat} (sp : ∀ x ∈ xs, Sp x) (xl : xs.length ≤ 20) (hl : cu ≤ xs.length) (hb : ∀ i, bad xs = some i → cu ≤ i) (hk : exSs Γ rest n ⟨[none, some .stm, o2, o3, some (.fz (.lst xs)), o5, o6, some (.fz (.int (cu : Int))), some (.fz (accD (rowOf (xs.take cu)))), o9, o10, o11, o12, some (.fz (idxD (bad xs)))], c⟩) : exSs Γ ((.ite (.or (.not (.call "_law_same" [(.lam "_law_index" [4, 7, 8] (.mth "Account" (.var 8) "further" [(.sli (.var 4) (some (.var 7)) none)] 0)), (.var 13)] 0)) (.cmp .ne (.opx opLen [(.mth "Account" (.var 8) "__len__" [] 0)]) (.var 7))) [(.ret (.bl false))] []) :: rest) n ⟨[none, some .stm, o2, o3, some (.fz (.lst xs)), o5, o6, some (.fz (.int (cu : Int))), some (.fz (accD (rowOf (xs.take cu)))), o9, o10, o11, o12, some (.fz (idxD (bad xs)))], c⟩ := by
  obtain ⟨k1, k2, k3, k4, k5⟩ := cut_ok xl hl hb
  have bs : reprOk (idxD (bad xs)) = true ∧ (ps (idxD (bad xs))).shown.length ≤ sizeLine := (bad_shw xl).repr (by decide) (by decide)
  ((repeat (first | ((conv => whnf); refine And.intro (by first | exact rfl | exact trivial | exact ⟨rfl, rfl⟩ | exact ⟨rfl, strs_scal _⟩ | exact ⟨trivial, trivial⟩ | assumption | decide | exact Nat.le_of_ble_eq_true rfl | omega) ?_) | ((conv => whnf); first | rw [h8] | rw [h12] | rw [h9]))); try (conv => whnf))
  rw [cut_from']
  refine ⟨rowOf (xs.take cu), .lst (xs.drop cu), rfl, k2, .inr ⟨xs.drop cu, .inl rfl, fun x hx => (sp x (List.mem_of_mem_drop hx)).ok, by rw [k3, List.length_drop]; omega, fun hn => ⟨(fun e => (by cases e)), ?_⟩, fun i hi => ⟨(fun e => (by cases e)), ?_⟩⟩⟩
  · have e : bad xs = none := k4.symm.trans hn
    rw [e] at hk bs ⊢
    (conv => whnf)
    refine ⟨.non, .non, rfl, bs, bs, fun _ => rfl, ?_⟩
    rw [decide_eq_true rfl]
    ((repeat (first | ((conv => whnf); refine And.intro (by first | exact rfl | exact trivial | exact ⟨rfl, rfl⟩ | exact ⟨rfl, strs_scal _⟩ | exact ⟨trivial, trivial⟩ | assumption | decide | exact Nat.le_of_ble_eq_true rfl | omega) ?_) | ((conv => whnf); first | rw [h10]))); try (conv => whnf))
    refine ⟨rowOf (xs.take cu), rfl, by omega, (fun e => (by cases e)), ?_⟩
    rw [k3]
    (conv => whnf)
    refine And.intro ⟨by omega, by omega⟩ ?_
    (conv => whnf)
    rw [show decide (toV (R.fz (D.int (cu : Int))).d = toV (D.int (cu : Int))) = true from decide_eq_true rfl]
    refine And.intro trivial ?_
    exact hk
  · have e : bad xs = some i := k4.symm.trans hi
    rw [e] at hk bs ⊢
    (conv => whnf)
    refine ⟨.int (i : Int), .int (i : Int), rfl, bs, bs, fun _ => rfl, ?_⟩
    rw [decide_eq_true rfl]
    ((repeat (first | ((conv => whnf); refine And.intro (by first | exact rfl | exact trivial | exact ⟨rfl, rfl⟩ | exact ⟨rfl, strs_scal _⟩ | exact ⟨trivial, trivial⟩ | assumption | decide | exact Nat.le_of_ble_eq_true rfl | omega) ?_) | ((conv => whnf); first | rw [h10]))); try (conv => whnf))
    refine ⟨rowOf (xs.take cu), rfl, by omega, (fun e => (by cases e)), ?_⟩
    rw [k3]
    (conv => whnf)
    refine And.intro ⟨by omega, by omega⟩ ?_
    (conv => whnf)
    rw [show decide (toV (R.fz (D.int (cu : Int))).d = toV (D.int (cu : Int))) = true from decide_eq_true rfl]
    refine And.intro trivial ?_
    exact hk
include h7 h9 h11 in
theorem t8 {cu : Nat} (sp : ∀ x ∈ xs, Sp x) (xl : xs.length ≤ 20) (hl : cu ≤ xs.length) (hb : ∀ i, bad xs = some i → cu ≤ i) (hk : exSs Γ rest n ⟨[none, some .stm, o2, o3, some (.fz (.lst xs)), o5, o6, some (.fz (.int (cu : Int))), some (.fz (accD (rowOf (xs.take cu)))), o9, o10, o11, o12, some (.fz (idxD (bad xs)))], c⟩) : exSs Γ ((.ite (.and (.cmp .isn (.var 13) .non) (.oeq "Account" true (.mth "Account" (.var 8) "further" [(.bi .tuple [(.sli (.var 4) (some (.var 7)) none)])] 0) (.call "Account" [(.var 4)] 0))) [(.ret (.bl false))] []) :: rest) n ⟨[none, some .stm, o2, o3, some (.fz (.lst xs)), o5, o6, some (.fz (.int (cu : Int))), some (.fz (accD (rowOf (xs.take cu)))), o9, o10, o11, o12, some (.fz (idxD (bad xs)))], c⟩ := by
  obtain ⟨k1, k2, k3, k4, k5⟩ := cut_ok xl hl hb
  have okx : ∀ x ∈ xs, OkDeed x := fun x hx => (sp x hx).ok
  cases e : bad xs with
  | some i =>
    rw [e] at hk
    ((repeat ((conv => whnf); refine And.intro (by first | exact rfl | exact trivial | exact ⟨rfl, rfl⟩ | exact ⟨rfl, strs_scal _⟩ | exact ⟨trivial, trivial⟩ | assumption | decide | exact Nat.le_of_ble_eq_true rfl | omega) ?_)); try (conv => whnf))
    exact hk
  | none =>
    rw [e] at hk
    have v := chk_ok (xs := xs) (by omega) e
    ((repeat ((conv => whnf); refine And.intro (by first | exact rfl | exact trivial | exact ⟨rfl, rfl⟩ | exact ⟨rfl, strs_scal _⟩ | exact ⟨trivial, trivial⟩ | assumption | decide | exact Nat.le_of_ble_eq_true rfl | omega) ?_)); try (conv => whnf))
    rw [h9]
    (conv => whnf)
    rw [cut_from']
    refine ⟨rowOf (xs.take cu), .tup (xs.drop cu), rfl, k2, .inr ⟨xs.drop cu, .inr rfl, fun x hx => okx x (List.mem_of_mem_drop hx), by rw [k3, List.length_drop]; omega, fun hn => ⟨(fun e => (by cases e)), ?_⟩, fun i hi => absurd ((k4.trans e).symm.trans hi) (by simp)⟩⟩
    rw [k5]
    ((repeat (first | ((conv => whnf); refine And.intro (by first | exact rfl | exact trivial | exact ⟨rfl, rfl⟩ | exact ⟨rfl, strs_scal _⟩ | exact ⟨trivial, trivial⟩ | assumption | decide | exact Nat.le_of_ble_eq_true rfl | omega) ?_) | ((conv => whnf); first | rw [h11] | rw [h7]))); try (conv => whnf))
    refine ⟨.lst xs, rfl, .inr ⟨xs, .inl rfl, okx, by omega, fun hn => ⟨(fun e => (by cases e)), ?_⟩, fun i hi => absurd ((show chk [] [] 0 xs = none from e).symm.trans hi) (by simp)⟩⟩
    ((repeat (first | ((conv => whnf); refine And.intro (by first | exact rfl | exact trivial | exact ⟨rfl, rfl⟩ | exact ⟨rfl, strs_scal _⟩ | exact ⟨trivial, trivial⟩ | assumption | decide | exact Nat.le_of_ble_eq_true rfl | omega) ?_) | ((conv => whnf); first | rw [h11]))); try (conv => whnf))
    refine ⟨rowOf xs, rowOf xs, rfl, v.1, v.1, (fun e => (by cases e)), ?_⟩
    rw [decide_eq_true rfl]
    ((repeat ((conv => whnf); refine And.intro (by first | exact rfl | exact trivial | exact ⟨rfl, rfl⟩ | exact ⟨rfl, strs_scal _⟩ | exact ⟨trivial, trivial⟩ | assumption | decide | exact Nat.le_of_ble_eq_true rfl | omega) ?_)); try (conv => whnf))
    exact hk
theorem other03 {x : D} (h : x ∈ [D.non, .int 5, .str "days", .dct [], .bl true]) : isListD x = false ∧ bltTy (tyD x) = true := by
  simp only [List.mem_cons, List.mem_nil_iff, or_false] at h
  rcases h with rfl | rfl | rfl | rfl | rfl <;> exact ⟨rfl, rfl⟩
include h2 in
theorem t9 (hc : c.c < 1000000) (i9 : isIo o9 = false) (hk : ∀ x c', x ∈ [D.non, .int 5, .str "days", .dct [], .bl true] → Stm.c c' = c.c + 1 → exSs Γ rest n ⟨[none, some .stm, o2, o3, some (.fz (.lst xs)), o5, o6, o7, o8, some (.fz x), o10, o11, o12, o13], c'⟩) : exSs Γ ((.asgF 9 (.call "_law_pick" [(.var 1), (.lst [.non, (.int 5), (.str "days"), (.dct [] []), (.bl true)])] 0)) :: rest) n ⟨[none, some .stm, o2, o3, some (.fz (.lst xs)), o5, o6, o7, o8, o9, o10, o11, o12, o13], c⟩ := by
  ((repeat (first | ((conv => whnf); refine And.intro (by first | exact rfl | exact trivial | exact ⟨rfl, rfl⟩ | exact ⟨rfl, strs_scal _⟩ | exact ⟨trivial, trivial⟩ | assumption | decide | exact Nat.le_of_ble_eq_true rfl | omega) ?_) | ((conv => whnf); first | rw [h2]))); try (conv => whnf))
  refine ⟨[D.non, .int 5, .str "days", .dct [], .bl true], rfl, by simp, by decide, hc, fun x c2 hx hc2 => ⟨(fun e => (by cases e)), ?_⟩⟩
  refine And.intro i9 ?_
  have hp := hk x c2 hx hc2
  exact hp
include h7 h12 in
theorem t10 {x : D} (hx : x ∈ [D.non, .int 5, .str "days", .dct [], .bl true]) (i6 : isIo o6 = false) (hk : exSs Γ rest n ⟨[none, some .stm, o2, o3, some (.fz (.lst xs)), o5, some (.own [.int 0]), o7, o8, some (.fz x), o10, o11, o12, o13], c⟩) : exSs Γ ((.asg 6 (.lst [(.lam "_law_index" [9] (.call "Account" [(.var 9)] 0))])) :: rest) n ⟨[none, some .stm, o2, o3, some (.fz (.lst xs)), o5, o6, o7, o8, some (.fz x), o10, o11, o12, o13], c⟩ := by
  obtain ⟨a, b⟩ := other03 hx
  ((repeat (first | ((conv => whnf); refine And.intro (by first | exact rfl | exact trivial | exact ⟨rfl, rfl⟩ | exact ⟨rfl, strs_scal _⟩ | exact ⟨trivial, trivial⟩ | assumption | decide | exact Nat.le_of_ble_eq_true rfl | omega) ?_) | ((conv => whnf); first | rw [h12] | rw [h7]))); try (conv => whnf))
  refine ⟨x, rfl, .inl ⟨a, b, (fun e => (by cases e)), ?_⟩⟩
  (conv => whnf)
  refine And.intro (Nat.le_of_ble_eq_true rfl) ?_
  exact And.intro i6 hk
include h9 h12 in
theorem t11 {x : D} {cu : Nat} (xl : xs.length ≤ 20) (hl : cu ≤ xs.length) (hb : ∀ i, bad xs = some i → cu ≤ i) (hx : x ∈ [D.non, .int 5, .str "days", .dct [], .bl true]) (hk : exSs Γ rest n ⟨[none, some .stm, o2, o3, some (.fz (.lst xs)), o5, some (.own [.int 0, .int (cu : Int)]), some (.fz (.int (cu : Int))), some (.fz (accD (rowOf (xs.take cu)))), some (.fz x), o10, o11, o12, o13], c⟩) : exSs Γ ((.app 6 (.lam "_law_index" [8, 9] (.mth "Account" (.var 8) "further" [(.var 9)] 0))) :: rest) n ⟨[none, some .stm, o2, o3, some (.fz (.lst xs)), o5, some (.own [.int 0]), some (.fz (.int (cu : Int))), some (.fz (accD (rowOf (xs.take cu)))), some (.fz x), o10, o11, o12, o13], c⟩ := by
  obtain ⟨k1, k2, k3, k4, k5⟩ := cut_ok xl hl hb
  obtain ⟨a, b⟩ := other03 hx
  ((repeat (first | ((conv => whnf); refine And.intro (by first | exact rfl | exact trivial | exact ⟨rfl, rfl⟩ | exact ⟨rfl, strs_scal _⟩ | exact ⟨trivial, trivial⟩ | assumption | decide | exact Nat.le_of_ble_eq_true rfl | omega) ?_) | ((conv => whnf); first | rw [h12] | rw [h9]))); try (conv => whnf))
  refine ⟨rowOf (xs.take cu), x, rfl, k2, .inl ⟨a, b, (fun e => (by cases e)), ?_⟩⟩
  rw [k3]
  (conv => whnf)
  refine And.intro (Nat.le_of_ble_eq_true rfl) ?_
  exact hk
include h8 in
theorem t12 {cu : Nat} (hl : cu ≤ 20) (hk : exSs Γ rest n ⟨[none, some .stm, o2, o3, some (.fz (.lst xs)), o5, some (.own [.int 0, .int (cu : Int)]), some (.fz (.int (cu : Int))), o8, o9, o10, o11, o12, o13], c⟩) : exSs Γ ((.ite (.not (.call "_law_same" [(.var 6), (.lst [(.int 0), (.var 7)])] 0)) [(.ret (.bl false))] []) :: rest) n ⟨[none, some .stm, o2, o3, some (.fz (.lst xs)), o5, some (.own [.int 0, .int (cu : Int)]), some (.fz (.int (cu : Int))), o8, o9, o10, o11, o12, o13], c⟩ := by
  have r2 := two_rep (y := .int 0) (z := .int (cu : Int)) (Shw.int (by decide) (by decide)) (Shw.int (by omega) (by
    have : (20 : Int) < 10 ^ 110 := by decide
    omega))
  ((repeat (first | ((conv => whnf); refine And.intro (by first | exact rfl | exact trivial | exact ⟨rfl, rfl⟩ | exact ⟨rfl, strs_scal _⟩ | exact ⟨trivial, trivial⟩ | assumption | decide | exact Nat.le_of_ble_eq_true rfl | omega) ?_) | ((conv => whnf); first | rw [h8]))); try (conv => whnf))
  refine ⟨.lst [.int 0, .int (cu : Int)], .lst [.int 0, .int (cu : Int)], rfl, r2, r2, fun _ => rfl, ?_⟩
  rw [decide_eq_true rfl]
  ((repeat ((conv => whnf); refine And.intro (by first | exact rfl | exact trivial | exact ⟨rfl, rfl⟩ | exact ⟨rfl, strs_scal _⟩ | exact ⟨trivial, trivial⟩ | assumption | decide | exact Nat.le_of_ble_eq_true rfl | omega) ?_)); try (conv => whnf))
  exact hk
include h1 h2 h6 h7 h8 h9 h10 h11 h12 in
theorem t_all (sp : ∀ x ∈ xs, Sp x) (xl : xs.length ≤ 20) (hc : c.c + 10 < 1000000) (i6 : isIo o6 = false) (i7 : isIo o7 = false) (i8 : isIo o8 = false) (i9 : isIo o9 = false) (i12 : isIo o12 = false) (i13 : isIo o13 = false)
    (hk : ∀ p6 p7 p8 p9 p12 p13 c', isIo p6 = false → isIo p7 = false → isIo p8 = false → isIo p9 = false → isIo p12 = false → isIo p13 = false → Stm.c c' ≤ c.c + 10 → n.nx ⟨[none, some .stm, o2, o3, some (.fz (.lst xs)), o5, p6, p7, p8, p9, o10, o11, p12, p13], c'⟩) :
    exSs Γ [(.par [12, 13] [(.bi .repr [(.var 4)]), (.call "_law_first_bad" [(.var 4)] 0)]), (.asg 6 (.lst [(.lam "_law_index" [4] (.call "Account" [(.var 4)] 0))])), (.app 6 (.lam "_law_index" [4] (.call "Account" [(.bi .tuple [(.var 4)])] 0))), (.ite (.not (.call "_law_same" [(.var 6), (.bin .rep (.lst [(.var 13)]) (.int 2))] 0)) [(.ret (.bl false))] []), (.ite (.cmp .ne (.bi .repr [(.var 4)]) (.var 12)) [(.ret (.bl false))] []), (.asgF 7 (.ite (.cmp .isn (.var 13) .non) (.call "_law_draw" [(.var 1), (.bin .add (.bi .len [(.var 4)]) (.int 1))] 0) (.call "_law_draw" [(.var 1), (.bin .add (.var 13) (.int 1))] 0))), (.asgF 8 (.call "Account" [(.sli (.var 4) none (some (.var 7)))] 0)), (.ite (.or (.not (.call "_law_same" [(.lam "_law_index" [4, 7, 8] (.mth "Account" (.var 8) "further" [(.sli (.var 4) (some (.var 7)) none)] 0)), (.var 13)] 0)) (.cmp .ne (.opx opLen [(.mth "Account" (.var 8) "__len__" [] 0)]) (.var 7))) [(.ret (.bl false))] []), (.ite (.and (.cmp .isn (.var 13) .non) (.oeq "Account" true (.mth "Account" (.var 8) "further" [(.bi .tuple [(.sli (.var 4) (some (.var 7)) none)])] 0) (.call "Account" [(.var 4)] 0))) [(.ret (.bl false))] []), (.asgF 9 (.call "_law_pick" [(.var 1), (.lst [.non, (.int 5), (.str "days"), (.dct [] []), (.bl true)])] 0)), (.asg 6 (.lst [(.lam "_law_index" [9] (.call "Account" [(.var 9)] 0))])), (.app 6 (.lam "_law_index" [8, 9] (.mth "Account" (.var 8) "further" [(.var 9)] 0))), (.ite (.not (.call "_law_same" [(.var 6), (.lst [(.int 0), (.var 7)])] 0)) [(.ret (.bl false))] [])] n ⟨[none, some .stm, o2, o3, some (.fz (.lst xs)), o5, o6, o7, o8, o9, o10, o11, o12, o13], c⟩ := by
  refine t0 h6 sp xl i12 i13 ?_
  refine t1 h7 h12 sp xl i6 ?_
  refine t2 h7 h12 sp xl ?_
  refine t3 h8 xl ?_
  refine t4 sp xl ?_
  refine t5 h1 xl (by omega) i7 fun cu c2 hl hb hc2 => ?_
  refine t6 h7 sp xl hl hb i8 ?_
  refine t7 h8 h9 h10 h12 sp xl hl hb ?_
  refine t8 h7 h9 h11 sp xl hl hb ?_
  refine t9 h2 (by omega) i9 fun x c3 hx hc3 => ?_
  refine t10 h7 h12 hx rfl ?_
  refine t11 h9 h12 xl hl hb hx ?_
  refine t12 h8 (by omega) ?_
  exact hk _ _ _ _ _ _ _ rfl rfl rfl rfl rfl rfl (by omega)
end
theorem p_law {Γ : Env} (h1 : Γ.fn "_law_draw" = some (.pl conDrawN true [])) (h2 : Γ.fn "_law_pick" = some (.pl conPick false [])) (h3 : Γ.fn "_law_pool" = some (.pl conPool false [])) (h4 : Γ.fn "_law_row" = some (.pl conRow false [])) (h5 : Γ.fn "_law_odd" = some (.pl conOdd03 false [])) (h6 : Γ.fn "_law_first_bad" = some (.pl conFirstBad false [])) (h7 : Γ.fn "Account" = some (.pl conMkX false [.kt []])) (h8 : Γ.fn "_law_same" = some (.pl conSame true [])) (h9 : Γ.mth "Account" "further" = some (.pl conFurtherX false [])) (h10 : Γ.mth "Account" "__len__" = some (.pl conLen false [])) (h11 : Γ.mth "Account" "__eq__" = some (.pl conEq false [])) (h12 : Γ.ask "_law_index" = some (askB "BadDeed" "index")) : LawOk Γ 14 c_law := by
  intro c hc
  have sb := sizeLine_big
  (conv => whnf)
  refine And.intro (by decide) ?_
  refine forR (I := fun j s => ∃ c1 o2 o3 o4 o5 o6 o7 o8 o9 o10 o11 o12 o13, isIo o2 = false ∧ isIo o3 = false ∧ isIo o4 = false ∧ isIo o5 = false ∧ isIo o6 = false ∧ isIo o7 = false ∧ isIo o8 = false ∧ isIo o9 = false ∧ isIo o10 = false ∧ isIo o11 = false ∧ isIo o12 = false ∧ isIo o13 = false ∧ Stm.c c1 + 300 * j ≤ 3000 ∧
      s = ⟨[none, some .stm, o2, o3, o4, o5, o6, o7, o8, o9, o10, o11, o12, o13], c1⟩) ?_ ?_ 10 0 _ ⟨c, none, none, none, none, none, none, none, none, none, none, none, none, rfl, rfl, rfl, rfl, rfl, rfl, rfl, rfl, rfl, rfl, rfl, rfl, by rw [hc]; decide, rfl⟩
  · rintro s ⟨c1, o2, o3, o4, o5, o6, o7, o8, o9, o10, o11, o12, o13, i2, i3, i4, i5, i6, i7, i8, i9, i10, i11, i12, i13, hc1, rfl⟩
    ((repeat ((conv => whnf); refine And.intro (by first | exact rfl | exact trivial | exact ⟨rfl, rfl⟩ | exact ⟨rfl, strs_scal _⟩ | exact ⟨trivial, trivial⟩ | assumption | decide | exact Nat.le_of_ble_eq_true rfl | omega) ?_)); try (conv => whnf))
  · rintro j i0 s ⟨c1, o2, o3, o4, o5, o6, o7, o8, o9, o10, o11, o12, o13, i2, i3, i4, i5, i6, i7, i8, i9, i10, i11, i12, i13, hc1, rfl⟩ N hN
    refine And.intro i2 ?_
    ((repeat (first | ((conv => whnf); refine And.intro (by first | exact rfl | exact trivial | exact ⟨rfl, rfl⟩ | exact ⟨rfl, strs_scal _⟩ | exact ⟨trivial, trivial⟩ | assumption | decide | exact Nat.le_of_ble_eq_true rfl | omega) ?_) | ((conv => whnf); first | rw [h3] | rw [h1]))); try (conv => whnf))
    refine ⟨4, rfl, by decide, by decide, show c1.c < 1000000 by omega, fun i c2 g0 g1 hc2 => ⟨fun _ => rfl, ?_⟩⟩
    have hc2 : c2.c = c1.c + 1 := hc2
    obtain ⟨m, rfl⟩ : ∃ m : Nat, i = (m : Int) := ⟨i.toNat, by omega⟩
    ((repeat ((conv => whnf); refine And.intro (by first | exact rfl | exact trivial | exact ⟨rfl, rfl⟩ | exact ⟨rfl, strs_scal _⟩ | exact ⟨trivial, trivial⟩ | assumption | decide | exact Nat.le_of_ble_eq_true rfl | omega) ?_)); try (conv => whnf))
    refine ⟨1 + m, rfl, by omega, show c2.c + 12 * (1 + m) + 12 < 1000000 by omega, fun pool c3 l1 l2 l3 l4 => ⟨(fun e => (by cases e)), ?_⟩⟩
    have l4 : c3.c ≤ c2.c + 12 * (1 + m) := l4
    ((repeat (first | ((conv => whnf); refine And.intro (by first | exact rfl | exact trivial | exact ⟨rfl, rfl⟩ | exact ⟨rfl, strs_scal _⟩ | exact ⟨trivial, trivial⟩ | assumption | decide | exact Nat.le_of_ble_eq_true rfl | omega) ?_) | ((conv => whnf); first | rw [h4]))); try (conv => whnf))
    refine ⟨pool, 20, rfl, by decide, by decide, by omega, l3, show c3.c + 12 * (pool.length + 2) < 1000000 by omega, fun row c4 rf rl hc4 => ⟨(fun e => (by cases e)), ?_⟩⟩
    have hc4 : c4.c ≤ c3.c + 10 * (pool.length + 1) := hc4
    obtain ⟨hv, ho⟩ := rowF_ok rf l2 l3 (by omega)
    have lim := rowF_lim rf
    have sp : ∀ x ∈ row.map Deed.d, Sp x := fun x hx => by
      obtain ⟨d, hd, rfl⟩ := List.mem_map.mp hx
      have l := lim d hd
      have big : (20 : Int) < 10 ^ 110 := by decide
      refine sp_deed (hv.ok d hd) ?_
      cases d with
      | op m n => have l : n ≤ 20 := l; show n < 10 ^ 110; omega
      | days n => have l : n ≤ 20 := l; show n < 10 ^ 110; omega
      | pause n => have l : n ≤ 20 := l; show n < 10 ^ 110; omega
      | back m => trivial
    ((repeat (first | ((conv => whnf); refine And.intro (by first | exact rfl | exact trivial | exact ⟨rfl, rfl⟩ | exact ⟨rfl, strs_scal _⟩ | exact ⟨trivial, trivial⟩ | assumption | decide | exact Nat.le_of_ble_eq_true rfl | omega) ?_) | ((conv => whnf); first | rw [h1]))); try (conv => whnf))
    refine ⟨3, rfl, by decide, by decide, show c4.c < 1000000 by omega, fun n c5 g0 g1 hc5 => ⟨fun _ => rfl, ?_⟩⟩
    have hc5 : c5.c = c4.c + 1 := hc5
    ((repeat ((conv => whnf); refine And.intro (by first | exact rfl | exact trivial | exact ⟨rfl, rfl⟩ | exact ⟨rfl, strs_scal _⟩ | exact ⟨trivial, trivial⟩ | assumption | decide | exact Nat.le_of_ble_eq_true rfl | omega) ?_)); try (conv => whnf))
    refine forR (I := fun k s => ∃ xs c6 o5 o10 o11, (∀ x ∈ xs, Sp x) ∧ xs.length + k ≤ 20 ∧ isIo o5 = false ∧ isIo o10 = false ∧ isIo o11 = false ∧ Stm.c c6 + 10 * k ≤ c5.c + 40 ∧ s = ⟨[none, some .stm, some (.fz (.int i0)), some (.fz (.lst (pool.map D.str))), some (.fz (.lst xs)), o5, o6, o7, o8, o9, o10, o11, o12, o13], c6⟩) ?_ ?_ n.toNat 0 _ ⟨row.map Deed.d, c5, o5, o10, o11, sp, by rw [List.length_map]; omega, i5, i10, i11, by omega, rfl⟩
    · rintro s ⟨xs, c6, o5, o10, o11, sp, xl, i5, i10, i11, hc6, rfl⟩
      exact t_all h1 h2 h6 h7 h8 h9 h10 h11 h12 sp (by omega) (show c6.c + 10 < 1000000 by omega) i6 i7 i8 i9 i12 i13 fun p6 p7 p8 p9 p12 p13 c' j6 j7 j8 j9 j12 j13 hc' => hN _ ⟨c', _, _, _, _, p6, p7, p8, p9, _, _, p12, p13, rfl, rfl, rfl, i5, j6, j7, j8, j9, i10, i11, j12, j13, by have hc' : Stm.c c' ≤ c6.c + 10 := hc'; omega, rfl⟩
    · rintro k ik s ⟨xs, c6, o5, o10, o11, sp, xl, i5, i10, i11, hc6, rfl⟩ N2 hN2
      refine And.intro i5 ?_
      have pne : pool ≠ [] := fun e => by rw [e] at l1; simp at l1; omega
      exact in_step h1 h2 h5 sp (by omega) pne (by omega) l3 i10 i11 (show c6.c + 10 < 1000000 by omega) fun ys c' o10 o11 sy ly i10 i11 hc' => hN2 _ ⟨ys, c', _, o10, o11, sy, by omega, rfl, i10, i11, by have hc' : Stm.c c' ≤ c6.c + 10 := hc'; omega, rfl⟩
end PP
set_option Elab.async false
set_option linter.all false
set_option maxRecDepth 100000
set_option maxHeartbeats 0
namespace PP
open PySem L2
theorem d_is_integer {P : Program} {w : World} {K : PySem.W.Frag} {mg : Str → Option Value} {base : Heap} {G : Gc} {Γ : Env} {f : Addr} (hf_bool : mg "bool" = none) (hf_int : mg "int" = none) (hf_isinstance : mg "isinstance" = none)
    (cdv : Value) (A : Around) (outer : List PySem.Env) (s : Shared) (H : Hp) (E : XK) (Fm : Fm) (hG : Fm.G = G) (g : Gd (cxOf CX0 P w K mg base N_is_integer "is_integer" (defScope (top 4)) f cdv A outer s H E).nox Fm noX) (hr : RoomG 0 (A.deeper (PyProof.Rows.envOfC "is_integer" (defScope (top 4)) s.heap.objs.size f cdv))) :
    SBX (cxOf CX0 P w K mg base N_is_integer "is_integer" (defScope (top 4)) f cdv A outer s H E).nox Fm noX Γ (defBody (top 4)) c_is_integer := by
  subst hG
  exact (sb_cons (ss_ret (sx_and (sx_isi1 (T := "int") g hf_isinstance hf_int (by decide +kernel) (by decide) (vx_var 0)) (sx_one (sx_not g (vx (sx_isi1 (T := "bool") g hf_isinstance hf_bool (by decide +kernel) (by decide) (vx_var 0)))))))
      sb_nil)
theorem d_is_count {P : Program} {w : World} {K : PySem.W.Frag} {mg : Str → Option Value} {base : Heap} {G : Gc} {Γ : Env} {f : Addr} {con_is_integer : Con} {dfl_is_integer : List D} (hg_is_integer : Γ.fn "is_integer" = some (.pl con_is_integer true dfl_is_integer)) (he_is_integer : FnE P w K mg base G 1 "is_integer" con_is_integer dfl_is_integer 0)
    (cdv : Value) (A : Around) (outer : List PySem.Env) (s : Shared) (H : Hp) (E : XK) (Fm : Fm) (hG : Fm.G = G) (g : Gd (cxOf CX0 P w K mg base N_is_count "is_count" (defScope (top 7)) f cdv A outer s H E).nox Fm noX) (hr : RoomG 1 (A.deeper (PyProof.Rows.envOfC "is_count" (defScope (top 7)) s.heap.objs.size f cdv))) :
    SBX (cxOf CX0 P w K mg base N_is_count "is_count" (defScope (top 7)) f cdv A outer s H E).nox Fm noX Γ (defBody (top 7)) c_is_count := by
  subst hG
  exact (sb_cons (ss_ret (sx_and (sx_callS g he_is_integer (hr.mono (by decide)) hg_is_integer (aax_cons (ax1_var 0) aax_nil)) (sx_one (sx_cmp (c_gt g) (vx_var 0) (vx sx_int)))))
      sb_nil)
theorem d_is_list {P : Program} {w : World} {K : PySem.W.Frag} {mg : Str → Option Value} {base : Heap} {G : Gc} {Γ : Env} {f : Addr} (hf_isinstance : mg "isinstance" = none) (hf_list : mg "list" = none) (hf_tuple : mg "tuple" = none)
    (cdv : Value) (A : Around) (outer : List PySem.Env) (s : Shared) (H : Hp) (E : XK) (Fm : Fm) (hG : Fm.G = G) (g : Gd (cxOf CX0 P w K mg base N_is_list "is_list" (defScope (top 5)) f cdv A outer s H E).nox Fm noX) (hr : RoomG 0 (A.deeper (PyProof.Rows.envOfC "is_list" (defScope (top 5)) s.heap.objs.size f cdv))) :
    SBX (cxOf CX0 P w K mg base N_is_list "is_list" (defScope (top 5)) f cdv A outer s H E).nox Fm noX Γ (defBody (top 5)) c_is_list := by
  subst hG
  exact (sb_cons (ss_ret (sx_isi2 (S := "list") (T := "tuple") g hf_isinstance hf_list (by decide +kernel) (by decide) hf_tuple (by decide +kernel) (by decide) (vx_var 0)))
      sb_nil)
theorem d_is_mark {P : Program} {w : World} {K : PySem.W.Frag} {mg : Str → Option Value} {base : Heap} {G : Gc} {Γ : Env} {f : Addr} (hf_all : mg "all" = none) (hf_isinstance : mg "isinstance" = none) (hf_len : mg "len" = none) (hf_str : mg "str" = none) {z_LETTERS : Str} {t_LETTERS : Tok} (hc_LETTERS : Γ.cst "LETTERS" = some (.str z_LETTERS)) (hm_LETTERS : mg "LETTERS" = some (.str z_LETTERS t_LETTERS)) {z_LONGEST : Int} {t_LONGEST : Tok} (hc_LONGEST : Γ.cst "LONGEST" = some (.int z_LONGEST)) (hm_LONGEST : mg "LONGEST" = some (.int z_LONGEST t_LONGEST))
    (cdv : Value) (A : Around) (outer : List PySem.Env) (s : Shared) (H : Hp) (E : XK) (Fm : Fm) (hG : Fm.G = G) (g : Gd (cxOf CX0 P w K mg base N_is_mark "is_mark" (defScope (top 6)) f cdv A outer s H E).nox Fm noX) (hr : RoomG 0 (A.deeper (PyProof.Rows.envOfC "is_mark" (defScope (top 6)) s.heap.objs.size f cdv))) :
    SBX (cxOf CX0 P w K mg base N_is_mark "is_mark" (defScope (top 6)) f cdv A outer s H E).nox Fm noX Γ (defBody (top 6)) c_is_mark := by
  subst hG
  exact (sb_cons (ss_ret (sx_and (sx_isi1 (T := "str") g hf_isinstance hf_str (by decide +kernel) (by decide) (vx_var 0)) (sx_and (sx_cmp2 (c_le g) (c_le g) sx_int (sx_len g hf_len (avx_cons (vx_var 0) avx_nil)) (sx_cstI hc_LONGEST hm_LONGEST)) (sx_one (sx_all g hf_all (avx_cons (vx (sx_lc (own := [("sign", 1)]) g (ix g (sx_var 0)) (blkOk_by (by kernel_rfl)) rfl (tgs_one 1) (fun _ _ _ _ _ => (pg_name (i := 1) (Gd.blk g).nd rfl (by first | exact Or.inl rfl | exact Or.inr rfl))) (fun _ _ _ _ _ => tsx_nil) (fun _ _ _ _ _ => (sx_cmp (c_in (Gd.blk g)) (vx_var 1) (vx (sx_cstS hc_LETTERS hm_LETTERS)))))) avx_nil))))))
      sb_nil)
theorem d_deed_of {P : Program} {w : World} {K : PySem.W.Frag} {mg : Str → Option Value} {base : Heap} {G : Gc} {Γ : Env} {f : Addr} (hf_isinstance : mg "isinstance" = none) (hf_len : mg "len" = none) (hf_str : mg "str" = none) (hf_tuple : mg "tuple" = none) {con_is_count : Con} {dfl_is_count : List D} (hg_is_count : Γ.fn "is_count" = some (.pl con_is_count true dfl_is_count)) (he_is_count : FnE P w K mg base G 2 "is_count" con_is_count dfl_is_count 0) {con_is_list : Con} {dfl_is_list : List D} (hg_is_list : Γ.fn "is_list" = some (.pl con_is_list true dfl_is_list)) (he_is_list : FnE P w K mg base G 1 "is_list" con_is_list dfl_is_list 0) {con_is_mark : Con} {dfl_is_mark : List D} (hg_is_mark : Γ.fn "is_mark" = some (.pl con_is_mark true dfl_is_mark)) (he_is_mark : FnE P w K mg base G 1 "is_mark" con_is_mark dfl_is_mark 0)
    (cdv : Value) (A : Around) (outer : List PySem.Env) (s : Shared) (H : Hp) (E : XK) (Fm : Fm) (hG : Fm.G = G) (g : Gd (cxOf CX0 P w K mg base N_deed_of "deed_of" (defScope (top 13)) f cdv A outer s H E).nox Fm noX) (hr : RoomG 2 (A.deeper (PyProof.Rows.envOfC "deed_of" (defScope (top 13)) s.heap.objs.size f cdv))) :
    SBX (cxOf CX0 P w K mg base N_deed_of "deed_of" (defScope (top 13)) f cdv A outer s H E).nox Fm noX Γ (defBody (top 13)) c_deed_of := by
  subst hG
  exact (sb_cons (ss_if (tx_w (tw_or (tx_not (tx g (vx (sx_callS g he_is_list (hr.mono (by decide)) hg_is_list (aax_cons (ax1_var 0) aax_nil))))) (tw_or (tx_cmp (c_eq g) (vx (sx_len g hf_len (avx_cons (vx_var 0) avx_nil))) (vx sx_int)) (tw_or1 (tx_not (tx g (vx (sx_isi1 (T := "str") g hf_isinstance hf_str (by decide +kernel) (by decide) (vx (sx_idx g (vx_var 0) (vx sx_int))))))))))) (sb_cons (ss_ret sx_non)
      sb_nil) sb_nil)
      (sb_cons (ss_asg g 1 (sx_idx g (vx_var 0) (vx sx_int)))
      (sb_cons (ss_if (tx_w (tw_and (tx_cmp (c_eq g) (vx_var 1) (vx sx_str)) (tw_and (tx_cmp (c_eq g) (vx (sx_len g hf_len (avx_cons (vx_var 0) avx_nil))) (vx sx_int)) (tw_and (tx g (vx (sx_callS g he_is_mark (hr.mono (by decide)) hg_is_mark (aax_cons (ax1 (sx_idx g (vx_var 0) (vx sx_int))) aax_nil)))) (tw_and1 (tx g (vx (sx_callS g he_is_count (hr.mono (by decide)) hg_is_count (aax_cons (ax1 (sx_idx g (vx_var 0) (vx sx_int))) aax_nil))))))))) (sb_cons (ss_ret (sx_tuple g hf_tuple (avx_cons (vx_var 0) avx_nil)))
      sb_nil) sb_nil)
      (sb_cons (ss_if (tx_w (tw_and (tx_cmp (c_in g) (vx_var 1) (vx (sx_tup (ax_cons sx_str (ax_cons sx_str ax_nil))))) (tw_and (tx_cmp (c_eq g) (vx (sx_len g hf_len (avx_cons (vx_var 0) avx_nil))) (vx sx_int)) (tw_and1 (tx g (vx (sx_callS g he_is_count (hr.mono (by decide)) hg_is_count (aax_cons (ax1 (sx_idx g (vx_var 0) (vx sx_int))) aax_nil)))))))) (sb_cons (ss_ret (sx_tuple g hf_tuple (avx_cons (vx_var 0) avx_nil)))
      sb_nil) sb_nil)
      (sb_cons (ss_if (tx_w (tw_and (tx_cmp (c_eq g) (vx_var 1) (vx sx_str)) (tw_and (tx_cmp (c_eq g) (vx (sx_len g hf_len (avx_cons (vx_var 0) avx_nil))) (vx sx_int)) (tw_and1 (tx g (vx (sx_callS g he_is_mark (hr.mono (by decide)) hg_is_mark (aax_cons (ax1 (sx_idx g (vx_var 0) (vx sx_int))) aax_nil)))))))) (sb_cons (ss_ret (sx_tuple g hf_tuple (avx_cons (vx_var 0) avx_nil)))
      sb_nil) sb_nil)
      (sb_cons (ss_ret sx_non)
      sb_nil))))))
theorem d_checked_rowX {P : Program} {w : World} {K : PySem.W.Frag} {mg : Str → Option Value} {base : Heap} {G : Gc} {Γ : Env} {f : Addr} (hf_enumerate : mg "enumerate" = none) (her_BadDeed : ErrE P K mg G "BadDeed" "index") {con_deed_of : Con} {dfl_deed_of : List D} (hg_deed_of : Γ.fn "deed_of" = some (.pl con_deed_of false dfl_deed_of)) (he_deed_of : FnE P w K mg base G 3 "deed_of" con_deed_of dfl_deed_of 0) {con_is_list : Con} {dfl_is_list : List D} (hg_is_list : Γ.fn "is_list" = some (.pl con_is_list true dfl_is_list)) (he_is_list : FnE P w K mg base G 1 "is_list" con_is_list dfl_is_list 0)
    (cdv : Value) (A : Around) (outer : List PySem.Env) (s : Shared) (H : Hp) (E : XK) (Fm : Fm) (Ex : XC) (hG : Fm.G = G) (g : Gd (cxOf (L2.CX P w) P w K mg base N_checked_rowX "checked_row" (defScope (top 14)) f cdv A outer s H E) Fm Ex) (hr : RoomG 3 (A.deeper (PyProof.Rows.envOfC "checked_row" (defScope (top 14)) s.heap.objs.size f cdv))) :
    SBX (cxOf (L2.CX P w) P w K mg base N_checked_rowX "checked_row" (defScope (top 14)) f cdv A outer s H E) Fm Ex Γ (defBody (top 14)) c_checked_rowX := by
  subst hG
  exact (sb_cons (ss_if (tx_not (tx g (vx (sx_callS g he_is_list (hr.mono (by decide)) hg_is_list (aax_cons (ax1_var 0) aax_nil))))) (sb_cons (ss_raise g her_BadDeed hr sx_int)
      sb_nil) sb_nil)
      (sb_cons (ss_par3 g 1 2 3 (sx_lst ax_nil) (sx_lst ax_nil) (sx_lst ax_nil))
      (sb_cons (ss_for g (passes_of rfl) (ix_enum g hf_enumerate (sx_var 0)) (tgs_tup g.hK (tgss_cons (tgs_one 4) (tgss_cons (tgs_one 5) tgss_nil)) rfl) (pg_tup rfl (pgs_cons (pg_name (i := 4) g.nd rfl (by first | exact Or.inl rfl | exact Or.inr rfl)) (pgs_cons (pg_name (i := 5) g.nd rfl (by first | exact Or.inl rfl | exact Or.inr rfl)) pgs_nil))) (sb_cons (ss_asgF g 6 (sx_call g he_deed_of (hr.mono (by decide)) hg_deed_of (abx_cons (bx1_var 5) abx_nil)))
      (sb_cons (ss_if (tx_cmp (c_isn g) (vx_var 6) (vx sx_non)) (sb_cons (ss_raise g her_BadDeed hr (sx_var 4))
      sb_nil) sb_nil)
      (sb_cons (ss_if (tx_cmp (c_eq g) (vx (sx_idx g (vx_var 6) (vx sx_int))) (vx sx_str)) (sb_cons (ss_if (tx_cmp (c_in g) (vx (sx_idx g (vx_var 6) (vx sx_int))) (vx_var 2)) (sb_cons (ss_raise g her_BadDeed hr (sx_var 4))
      sb_nil) sb_nil)
      (sb_cons (ss_app g 2 (sx_idx g (vx_var 6) (vx sx_int)))
      (sb_cons (ss_app g 3 (sx_idx g (vx_var 6) (vx sx_int)))
      sb_nil))) sb_nil)
      (sb_cons (ss_if (tx_cmp (c_eq g) (vx (sx_idx g (vx_var 6) (vx sx_int))) (vx sx_str)) (sb_cons (ss_if (tx_cmp (c_nin g) (vx (sx_idx g (vx_var 6) (vx sx_int))) (vx_var 3)) (sb_cons (ss_raise g her_BadDeed hr (sx_var 4))
      sb_nil) sb_nil)
      (sb_cons (ss_rem g 3 (sx_idx g (vx_var 6) (vx sx_int)))
      sb_nil)) sb_nil)
      (sb_cons (ss_app g 1 (sx_var 6))
      sb_nil))))))
      (sb_cons (ss_ret (sx_var 1))
      sb_nil))))
theorem d_Account___init__X {P : Program} {w : World} {K : PySem.W.Frag} {mg : Str → Option Value} {base : Heap} {G : Gc} {Γ : Env} {f : Addr} (hf_tuple : mg "tuple" = none) {con : Con} (hg : Γ.fn "checked_row" = some (.pl con false [])) (he : FnE P w K mg base G 4 "checked_row" con [] 0)
    (cdv : Value) (A : Around) (outer : List PySem.Env) (s : Shared) (H : Hp) (E : XK) (Fm : Fm) (Ex : XC) (hG : Fm.G = G) (g : Gd (cxOf (L2.CX P w) P w K mg base N_acInit "Account.__init__" (defScope (inClass (top 15) 0)) f cdv A outer s H E) Fm Ex) (hr : RoomG 4 (A.deeper (PyProof.Rows.envOfC "Account.__init__" (defScope (inClass (top 15) 0)) s.heap.objs.size f cdv))) :
    PSs (cxOf (L2.CX P w) P w K mg base N_acInit "Account.__init__" (defScope (inClass (top 15) 0)) f cdv A outer s H E) (defBody (inClass (top 15) 0)) (t_acInit K (LR Fm Ex (evP Γ i_acDeeds).r)) := by
  subst hG
  exact pss_cons (ps_fld (pv 0) (sx_tuple g hf_tuple (avx_cons (vx (sx_call g he hr hg (abx_cons (bx1_var 1) abx_nil))) avx_nil)) rfl)
    (pss_cons (ps_fld (pv 0) pe_dnewK rfl) (pss_cons (ps_fld (pv 0) pe_dnewK rfl)
    (pss_cons (ps_for (passes_of rfl) g.calm (pi_tup (pe_fld (pv 0) rfl)) (pg_name (i := 2) g.nd rfl (by first | exact Or.inl rfl | exact Or.inr rfl))
      (pss_cons (ps_if (pt_cmpR op_eq (pe_ix ix_seq (pv 2) pe_int fun _ _ => rfl) pe_str (by first | exact nomark _ | rfl)) (pss_cons (ps_dput g.u1 (pe_fld (pv 0) rfl) (pe_ix ix_seq (pv 2) pe_int fun _ _ => rfl) (pe_ix ix_seq (pv 2) pe_int fun _ _ => rfl) rfl) (pss_cons (ps_dput g.u1 (pe_fld (pv 0) rfl) (pe_ix ix_seq (pv 2) pe_int fun _ _ => rfl) pe_int rfl) pss_nil))
        (pss_cons (ps_if (pt_cmpR op_eq (pe_ix ix_seq (pv 2) pe_int fun _ _ => rfl) pe_str (by first | exact nomark _ | rfl)) (pss_cons (ps_expr (pe_dpop1 (pe_fld (pv 0) rfl) (pe_ix ix_seq (pv 2) pe_int fun _ _ => rfl) ⟨rfl, rfl, rfl, rfl⟩)) (pss_cons (ps_expr (pe_dpop1 (pe_fld (pv 0) rfl) (pe_ix ix_seq (pv 2) pe_int fun _ _ => rfl) ⟨rfl, rfl, rfl, rfl⟩)) pss_nil))
          (pss_cons (ps_if (pt_cmpR op_eq (pe_ix ix_seq (pv 2) pe_int fun _ _ => rfl) pe_str (by first | exact nomark _ | rfl)) (pss_cons (ps_fld (pv 0) (pe_dc (own := [("mark", 3)]) g.calm g.nd (pi_any (pe_fld (pv 0) rfl)) (blkOk_by (by kernel_rfl)) (fun _ _ _ _ _ => pg_name (i := 3) g.nd rfl (by first | exact Or.inl rfl | exact Or.inr rfl)) (fun _ _ _ _ _ => pts_nil) (fun _ _ _ _ _ => pe_var (i := 3) rfl (by first | exact Or.inl rfl | exact Or.inr (Or.inl rfl) | exact Or.inr (Or.inr rfl)) (by decide) (by decide)) (fun _ _ _ _ _ => pe_op op_add (pe_dget g.u1 (pe_fld (pe_var (i := 0) rfl (by first | exact Or.inl rfl | exact Or.inr (Or.inl rfl) | exact Or.inr (Or.inr rfl)) (by decide) (by decide)) rfl) (pe_var (i := 3) rfl (by first | exact Or.inl rfl | exact Or.inr (Or.inl rfl) | exact Or.inr (Or.inr rfl)) (by decide) (by decide)) fun _ _ => rfl) (pe_ix ix_seq (pe_var (i := 2) rfl (by first | exact Or.inl rfl | exact Or.inr (Or.inl rfl) | exact Or.inr (Or.inr rfl)) (by decide) (by decide)) pe_int fun _ _ => rfl))) rfl) pss_nil) pss_nil) pss_nil)) pss_nil)) pss_nil)) pss_nil)))
theorem d__law_draw {P : Program} {w : World} {K : PySem.W.Frag} {mg : Str → Option Value} {base : Heap} {f : Addr} (hf_int : mg "int" = none)
    (cdv : Value) (A : Around) (outer : List PySem.Env) (s : Shared) (H : Hp) (E : XK) (hr : RoomG 0 (A.deeper (PyProof.Rows.envOfC "_law_draw" (defScope (top 18)) s.heap.objs.size f cdv))) : PSs (cxOf CX0 P w K mg base (N_drawZ "_law_mixed") "_law_draw" (defScope (top 18)) f cdv A outer s H E).nox (defBody (top 18)) (t_draw K) :=
  pss_cons (ps_asg (pe_op op_add (pe_ix ix_seq (pv 0) pe_int fun _ _ => rfl) pe_int) (pg_sub (pv 0) pe_int set_list))
    (pss_cons (ps_if (PW.pt (pw_and (pt_cmpR op_eq (pe_ix ix_seq (pv 0) pe_int fun _ _ => rfl) pe_int (by first | exact nomark _ | rfl)) (pw_and1 (pt_cmpR (op_neA hr.units) (pe_ix ix_seq (pv 0) pe_int fun _ _ => rfl) (pe_lst pa_nil) (by first | exact nomark _ | rfl)))))
      (pss_cons (ps_asg (pe_bm PySem.F.plainAttrs_list PySem.F.slot_list_pop PySem.F.type_list_pop mt_popAt (pe_ix ix_seq (pv 0) pe_int fun _ _ => rfl) (pa_cons pe_int pa_nil) rfl rfl rfl rfl rfl) (pg_sub (pv 0) pe_int set_list))
        (pss_cons (ps_if (pt_cmpR op_lt (pe_ix ix_seq (pv 0) pe_int fun _ _ => rfl) (pe_op op_pow pe_int pe_int) (by first | exact nomark _ | rfl))
          (pss_cons (ps_asg (pe_op op_mod (pe_callTy call_int1 rfl hf_int (by decide +kernel) (pa_cons (pe_op op_add (pe_op op_add (pe_op op_mul (pe_ix ix_seq (pv 0) pe_int fun _ _ => rfl) pe_int) (pe_ix ix_seq (pv 0) pe_int fun _ _ => rfl)) pe_int) pa_nil) (by decide) (by decide) rfl rfl) pe_int) (pg_sub (pv 0) pe_int set_list)) (pss_cons (ps_asg pe_int (pg_sub (pv 0) pe_int set_list)) pss_nil)) pss_nil) pss_nil)) pss_nil)
    (pss_cons (ps_if (pt_cmpR op_gt (pe_ix ix_seq (pv 0) pe_int fun _ _ => rfl) pe_int (by first | exact nomark _ | rfl))
      (pss_cons (ps_asg (pe_op op_mod (pe_callTy call_int1 rfl hf_int (by decide +kernel) (pa_cons (pe_ix ix_seq (pv 0) pe_int fun _ _ => rfl) pa_nil) (by decide) (by decide) rfl rfl) (pv 1)) (pg_name (i := 2) (show (N_drawZ "_law_mixed").Nodup by decide +kernel) rfl (Or.inl rfl))) (pss_cons (ps_asg (pe_op op_fdivW (pe_ix ix_seq (pv 0) pe_int fun _ _ => rfl) (pv 1)) (pg_sub (pv 0) pe_int set_list)) (pss_cons (ps_ret (pv 2)) pss_nil))) pss_nil)
    (pss_cons (ps_asg (pe_op op_mod (pe_op op_pow (pe_op op_add (pe_op op_add (pe_ix ix_seq (pv 0) pe_int fun _ _ => rfl) (pe_op op_mul pe_int (pe_ix ix_seq (pv 0) pe_int fun _ _ => rfl))) pe_int) pe_int) pe_int) (pg_name (i := 3) (show (N_drawZ "_law_mixed").Nodup by decide +kernel) rfl (Or.inl rfl)))
    (pss_cons (ps_ret (pe_op op_mod (pe_op op_mod (pe_op op_pow (pe_op op_add (pe_op op_add (pe_op op_mul (pv 3) pe_int) (pe_op op_mul (pe_op op_mul pe_int (pe_ix ix_seq (pv 0) pe_int fun _ _ => rfl)) (pe_ix ix_seq (pv 0) pe_int fun _ _ => rfl))) pe_int) pe_int) pe_int) (pv 1))) pss_nil))))
theorem d__law_is_count {P : Program} {w : World} {K : PySem.W.Frag} {mg : Str → Option Value} {base : Heap} {G : Gc} {Γ : Env} {f : Addr} (hf_bool : mg "bool" = none) (hf_int : mg "int" = none) (hf_isinstance : mg "isinstance" = none)
    (cdv : Value) (A : Around) (outer : List PySem.Env) (s : Shared) (H : Hp) (E : XK) (Fm : Fm) (hG : Fm.G = G) (g : Gd (cxOf CX0 P w K mg base N__law_is_count "_law_is_count" (defScope (top 26)) f cdv A outer s H E).nox Fm noX) (hr : RoomG 0 (A.deeper (PyProof.Rows.envOfC "_law_is_count" (defScope (top 26)) s.heap.objs.size f cdv))) :
    SBX (cxOf CX0 P w K mg base N__law_is_count "_law_is_count" (defScope (top 26)) f cdv A outer s H E).nox Fm noX Γ (defBody (top 26)) c__law_is_count := by
  subst hG
  exact (sb_cons (ss_ret (sx_and (sx_isi1 (T := "int") g hf_isinstance hf_int (by decide +kernel) (by decide) (vx_var 0)) (sx_and (sx_not g (vx (sx_isi1 (T := "bool") g hf_isinstance hf_bool (by decide +kernel) (by decide) (vx_var 0)))) (sx_one (sx_cmp (c_gt g) (vx_var 0) (vx sx_int))))))
      sb_nil)
theorem d__law_is_mark {P : Program} {w : World} {K : PySem.W.Frag} {mg : Str → Option Value} {base : Heap} {G : Gc} {Γ : Env} {f : Addr} (hf_all : mg "all" = none) (hf_isinstance : mg "isinstance" = none) (hf_len : mg "len" = none) (hf_str : mg "str" = none)
    (cdv : Value) (A : Around) (outer : List PySem.Env) (s : Shared) (H : Hp) (E : XK) (Fm : Fm) (hG : Fm.G = G) (g : Gd (cxOf CX0 P w K mg base N__law_is_mark "_law_is_mark" (defScope (top 25)) f cdv A outer s H E).nox Fm noX) (hr : RoomG 0 (A.deeper (PyProof.Rows.envOfC "_law_is_mark" (defScope (top 25)) s.heap.objs.size f cdv))) :
    SBX (cxOf CX0 P w K mg base N__law_is_mark "_law_is_mark" (defScope (top 25)) f cdv A outer s H E).nox Fm noX Γ (defBody (top 25)) c__law_is_mark := by
  subst hG
  exact (sb_cons (ss_asgF g 1 sx_str)
      (sb_cons (ss_ret (sx_and (sx_isi1 (T := "str") g hf_isinstance hf_str (by decide +kernel) (by decide) (vx_var 0)) (sx_and (sx_cmp2 (c_lt g) (c_lt g) sx_int (sx_len g hf_len (avx_cons (vx_var 0) avx_nil)) sx_int) (sx_one (sx_all g hf_all (avx_cons (vx (sx_lc (own := [("_law_one", 2)]) g (ix g (sx_var 0)) (blkOk_by (by kernel_rfl)) rfl (tgs_one 2) (fun _ _ _ _ _ => (pg_name (i := 2) (Gd.blk g).nd rfl (by first | exact Or.inl rfl | exact Or.inr rfl))) (fun _ _ _ _ _ => tsx_nil) (fun _ _ _ _ _ => (sx_cmp (c_in (Gd.blk g)) (vx_var 2) (vx_var 1))))) avx_nil))))))
      sb_nil))
theorem d__law_is_deed {P : Program} {w : World} {K : PySem.W.Frag} {mg : Str → Option Value} {base : Heap} {G : Gc} {Γ : Env} {f : Addr} (hf_isinstance : mg "isinstance" = none) (hf_len : mg "len" = none) (hf_list : mg "list" = none) (hf_str : mg "str" = none) (hf_tuple : mg "tuple" = none) {con__law_is_count : Con} {dfl__law_is_count : List D} (hg__law_is_count : Γ.fn "_law_is_count" = some (.pl con__law_is_count false dfl__law_is_count)) (he__law_is_count : FnE P w K mg base G 1 "_law_is_count" con__law_is_count dfl__law_is_count 0) {con__law_is_mark : Con} {dfl__law_is_mark : List D} (hg__law_is_mark : Γ.fn "_law_is_mark" = some (.pl con__law_is_mark false dfl__law_is_mark)) (he__law_is_mark : FnE P w K mg base G 1 "_law_is_mark" con__law_is_mark dfl__law_is_mark 0)
    (cdv : Value) (A : Around) (outer : List PySem.Env) (s : Shared) (H : Hp) (E : XK) (Fm : Fm) (hG : Fm.G = G) (g : Gd (cxOf CX0 P w K mg base N__law_is_deed "_law_is_deed" (defScope (top 27)) f cdv A outer s H E).nox Fm noX) (hr : RoomG 1 (A.deeper (PyProof.Rows.envOfC "_law_is_deed" (defScope (top 27)) s.heap.objs.size f cdv))) :
    SBX (cxOf CX0 P w K mg base N__law_is_deed "_law_is_deed" (defScope (top 27)) f cdv A outer s H E).nox Fm noX Γ (defBody (top 27)) c__law_is_deed := by
  subst hG
  exact (sb_cons (ss_if (tx_w (tw_or (tx_not (tx g (vx (sx_isi2 (S := "list") (T := "tuple") g hf_isinstance hf_list (by decide +kernel) (by decide) hf_tuple (by decide +kernel) (by decide) (vx_var 0))))) (tw_or (tx_cmp (c_nin g) (vx (sx_len g hf_len (avx_cons (vx_var 0) avx_nil))) (vx (sx_tup (ax_cons sx_int (ax_cons sx_int ax_nil))))) (tw_or1 (tx_not (tx g (vx (sx_isi1 (T := "str") g hf_isinstance hf_str (by decide +kernel) (by decide) (vx (sx_idx g (vx_var 0) (vx sx_int))))))))))) (sb_cons (ss_ret sx_bl)
      sb_nil) sb_nil)
      (sb_cons (ss_if (tx_cmp (c_eq g) (vx (sx_len g hf_len (avx_cons (vx_var 0) avx_nil))) (vx sx_int)) (sb_cons (ss_ret (sx_and (sx_cmp (c_eq g) (vx (sx_idx g (vx_var 0) (vx sx_int))) (vx sx_str)) (sx_and (sx_call g he__law_is_mark (hr.mono (by decide)) hg__law_is_mark (abx_cons (bx1 (sx_idx g (vx_var 0) (vx sx_int))) abx_nil)) (sx_one (sx_call g he__law_is_count (hr.mono (by decide)) hg__law_is_count (abx_cons (bx1 (sx_idx g (vx_var 0) (vx sx_int))) abx_nil))))))
      sb_nil) sb_nil)
      (sb_cons (ss_ret (sx_or (sx_and (sx_cmp (c_in g) (vx (sx_idx g (vx_var 0) (vx sx_int))) (vx (sx_tup (ax_cons sx_str (ax_cons sx_str ax_nil))))) (sx_one (sx_call g he__law_is_count (hr.mono (by decide)) hg__law_is_count (abx_cons (bx1 (sx_idx g (vx_var 0) (vx sx_int))) abx_nil)))) (sx_one (sx_and (sx_cmp (c_eq g) (vx (sx_idx g (vx_var 0) (vx sx_int))) (vx sx_str)) (sx_one (sx_call g he__law_is_mark (hr.mono (by decide)) hg__law_is_mark (abx_cons (bx1 (sx_idx g (vx_var 0) (vx sx_int))) abx_nil)))))))
      sb_nil)))
theorem d__law_first_bad {P : Program} {w : World} {K : PySem.W.Frag} {mg : Str → Option Value} {base : Heap} {G : Gc} {Γ : Env} {f : Addr} (hf_enumerate : mg "enumerate" = none) (hf_int : mg "int" = none) {con__law_is_deed : Con} {dfl__law_is_deed : List D} (hg__law_is_deed : Γ.fn "_law_is_deed" = some (.pl con__law_is_deed false dfl__law_is_deed)) (he__law_is_deed : FnE P w K mg base G 2 "_law_is_deed" con__law_is_deed dfl__law_is_deed 0)
    (cdv : Value) (A : Around) (outer : List PySem.Env) (s : Shared) (H : Hp) (E : XK) (Fm : Fm) (hG : Fm.G = G) (g : Gd (cxOf CX0 P w K mg base N__law_first_bad "_law_first_bad" (defScope (top 28)) f cdv A outer s H E).nox Fm noX) (hr : RoomG 2 (A.deeper (PyProof.Rows.envOfC "_law_first_bad" (defScope (top 28)) s.heap.objs.size f cdv))) :
    SBX (cxOf CX0 P w K mg base N__law_first_bad "_law_first_bad" (defScope (top 28)) f cdv A outer s H E).nox Fm noX Γ (defBody (top 28)) c__law_first_bad := by
  subst hG
  exact (sb_cons (ss_par2 g 1 2 (sx_lst ax_nil) (sx_lst ax_nil))
      (sb_cons (ss_for g PassesOwn.never (ix_enum g hf_enumerate (sx_var 0)) (tgs_tup g.hK (tgss_cons (tgs_one 3) (tgss_cons (tgs_one 4) tgss_nil)) rfl) (pg_tup rfl (pgs_cons (pg_name (i := 3) g.nd rfl (by first | exact Or.inl rfl | exact Or.inr rfl)) (pgs_cons (pg_name (i := 4) g.nd rfl (by first | exact Or.inl rfl | exact Or.inr rfl)) pgs_nil))) (sb_cons (ss_if (tx_not (tx g (vx (sx_call g he__law_is_deed (hr.mono (by decide)) hg__law_is_deed (abx_cons (bx1_var 4) abx_nil))))) (sb_cons (ss_ret (sx_var 3))
      sb_nil) sb_nil)
      (sb_cons (ss_if (tx_w (tw_and (tx_cmp (c_eq g) (vx (sx_idx g (vx_var 4) (vx sx_int))) (vx sx_str)) (tw_and1 (tx_cmp (c_in g) (vx (sx_idx g (vx_var 4) (vx sx_int))) (vx_var 1))))) (sb_cons (ss_ret (sx_var 3))
      sb_nil) sb_nil)
      (sb_cons (ss_if (tx_w (tw_and (tx_cmp (c_eq g) (vx (sx_idx g (vx_var 4) (vx sx_int))) (vx sx_str)) (tw_and1 (tx_w (tw_or (tx_cmp (c_nin g) (vx (sx_idx g (vx_var 4) (vx sx_int))) (vx_var 1)) (tw_or1 (tx_cmp (c_in g) (vx (sx_idx g (vx_var 4) (vx sx_int))) (vx_var 2)))))))) (sb_cons (ss_ret (sx_var 3))
      sb_nil) sb_nil)
      (sb_cons (ss_ext g 1 (sx_rep g (vx (sx_lst (ax_cons (sx_idx g (vx_var 4) (vx sx_int)) ax_nil))) (vx (sx_toInt g hf_int (avx_cons (vx (sx_cmp (c_eq g) (vx (sx_idx g (vx_var 4) (vx sx_int))) (vx sx_str))) avx_nil)))))
      (sb_cons (ss_ext g 2 (sx_rep g (vx (sx_lst (ax_cons (sx_idx g (vx_var 4) (vx sx_int)) ax_nil))) (vx (sx_toInt g hf_int (avx_cons (vx (sx_cmp (c_eq g) (vx (sx_idx g (vx_var 4) (vx sx_int))) (vx sx_str))) avx_nil)))))
      sb_nil))))))
      (sb_cons (ss_ret sx_non)
      sb_nil)))
theorem d__law_pick {P : Program} {w : World} {K : PySem.W.Frag} {mg : Str → Option Value} {base : Heap} {G : Gc} {Γ : Env} {f : Addr} (hf_len : mg "len" = none) {con__law_draw : Con} {dfl__law_draw : List D} (hg__law_draw : Γ.fn "_law_draw" = some (.pl con__law_draw true dfl__law_draw)) (he__law_draw : FnE P w K mg base G 1 "_law_draw" con__law_draw dfl__law_draw 0)
    (cdv : Value) (A : Around) (outer : List PySem.Env) (s : Shared) (H : Hp) (E : XK) (Fm : Fm) (hG : Fm.G = G) (g : Gd (cxOf CX0 P w K mg base N__law_pick "_law_pick" (defScope (top 19)) f cdv A outer s H E).nox Fm noX) (hr : RoomG 1 (A.deeper (PyProof.Rows.envOfC "_law_pick" (defScope (top 19)) s.heap.objs.size f cdv))) :
    SBX (cxOf CX0 P w K mg base N__law_pick "_law_pick" (defScope (top 19)) f cdv A outer s H E).nox Fm noX Γ (defBody (top 19)) c__law_pick := by
  subst hG
  exact (sb_cons (ss_ret (sx_idx g (vx_var 1) (vx (sx_callS g he__law_draw (hr.mono (by decide)) hg__law_draw (aax_cons (ax1_var 0) (aax_cons (ax1 (sx_len g hf_len (avx_cons (vx_var 1) avx_nil))) aax_nil))))))
      sb_nil)
theorem d__law_odd03 {P : Program} {w : World} {K : PySem.W.Frag} {mg : Str → Option Value} {base : Heap} {G : Gc} {Γ : Env} {f : Addr} {con__law_pick : Con} {dfl__law_pick : List D} (hg__law_pick : Γ.fn "_law_pick" = some (.pl con__law_pick false dfl__law_pick)) (he__law_pick : FnE P w K mg base G 2 "_law_pick" con__law_pick dfl__law_pick 0)
    (cdv : Value) (A : Around) (outer : List PySem.Env) (s : Shared) (H : Hp) (E : XK) (Fm : Fm) (hG : Fm.G = G) (g : Gd (cxOf CX0 P w K mg base N__law_odd03 "_law_odd" (defScope (top 29)) f cdv A outer s H E).nox Fm noX) (hr : RoomG 2 (A.deeper (PyProof.Rows.envOfC "_law_odd" (defScope (top 29)) s.heap.objs.size f cdv))) :
    SBX (cxOf CX0 P w K mg base N__law_odd03 "_law_odd" (defScope (top 29)) f cdv A outer s H E).nox Fm noX Γ (defBody (top 29)) c__law_odd03 := by
  subst hG
  exact (sb_cons (ss_asgF g 2 (sx_call g he__law_pick (hr.mono (by decide)) hg__law_pick (abx_cons (bx1_var 0) (abx_cons (bx1_var 1) abx_nil))))
      (sb_cons (ss_asg g 3 (sx_lst (ax_cons sx_non (ax_cons sx_int (ax_cons sx_str (ax_cons (sx_tup ax_nil) (ax_cons (sx_tup (ax_cons sx_str (ax_cons (sx_var 2) ax_nil))) (ax_cons (sx_tup (ax_cons sx_str (ax_cons (sx_var 2) (ax_cons sx_int ax_nil)))) (ax_cons (sx_tup (ax_cons sx_str (ax_cons (sx_var 2) (ax_cons (sx_neg sx_int) ax_nil)))) (ax_cons (sx_tup (ax_cons sx_str (ax_cons (sx_var 2) (ax_cons sx_bl ax_nil)))) (ax_cons (sx_tup (ax_cons sx_str (ax_cons sx_str (ax_cons sx_int ax_nil)))) (ax_cons sx_dct0 ax_nil))))))))))))
      (sb_cons (ss_ext g 3 (sx_lst (ax_cons (sx_tup (ax_cons sx_str (ax_cons sx_str (ax_cons sx_int ax_nil)))) (ax_cons (sx_tup (ax_cons sx_str (ax_cons (sx_var 2) (ax_cons sx_int (ax_cons sx_int ax_nil))))) (ax_cons (sx_tup (ax_cons sx_str ax_nil)) (ax_cons (sx_tup (ax_cons sx_str (ax_cons sx_int ax_nil))) (ax_cons (sx_tup (ax_cons sx_str (ax_cons sx_str ax_nil))) (ax_cons (sx_tup (ax_cons sx_str (ax_cons sx_non ax_nil))) ax_nil))))))))
      (sb_cons (ss_ext g 3 (sx_lst (ax_cons (sx_tup (ax_cons sx_str (ax_cons sx_bl ax_nil))) (ax_cons (sx_tup (ax_cons sx_str (ax_cons (sx_neg sx_int) ax_nil))) (ax_cons (sx_tup (ax_cons sx_str ax_nil)) (ax_cons (sx_tup (ax_cons sx_str (ax_cons sx_int ax_nil))) (ax_cons (sx_tup (ax_cons sx_str (ax_cons sx_str ax_nil))) (ax_cons (sx_tup (ax_cons sx_str (ax_cons (sx_var 2) (ax_cons sx_int ax_nil)))) (ax_cons (sx_tup (ax_cons sx_str (ax_cons (sx_var 2) ax_nil))) ax_nil)))))))))
      (sb_cons (ss_ext g 3 (sx_lst (ax_cons (sx_tup (ax_cons sx_int (ax_cons (sx_var 2) ax_nil))) (ax_cons (sx_lst (ax_cons sx_str (ax_cons (sx_var 2) (ax_cons sx_non ax_nil)))) (ax_cons (sx_tup (ax_cons sx_str (ax_cons (sx_var 2) (ax_cons sx_int ax_nil)))) (ax_cons (sx_tup (ax_cons sx_str (ax_cons (sx_var 2) ax_nil))) (ax_cons (sx_tup (ax_cons sx_str (ax_cons (sx_var 2) ax_nil))) (ax_cons (sx_lst (ax_cons sx_str (ax_cons sx_int ax_nil))) (ax_cons (sx_tup (ax_cons sx_non (ax_cons sx_int ax_nil))) ax_nil)))))))))
      (sb_cons (ss_ext g 3 (sx_lst (ax_cons (sx_tup (ax_cons sx_str (ax_cons sx_str (ax_cons sx_int ax_nil)))) (ax_cons (sx_tup (ax_cons (sx_lst (ax_cons sx_str ax_nil)) (ax_cons (sx_var 2) (ax_cons sx_int ax_nil)))) (ax_cons (sx_tup (ax_cons sx_str (ax_cons sx_int (ax_cons sx_int ax_nil)))) (ax_cons (sx_tup (ax_cons sx_str (ax_cons sx_int (ax_cons sx_int ax_nil)))) (ax_cons (sx_tup (ax_cons sx_str (ax_cons (sx_lst (ax_cons sx_str ax_nil)) ax_nil))) ax_nil)))))))
      (sb_cons (ss_app g 3 (sx_tup (ax_cons sx_str (ax_cons (sx_lst (ax_cons sx_str ax_nil)) (ax_cons sx_int ax_nil)))))
      (sb_cons (ss_ret (sx_call g he__law_pick (hr.mono (by decide)) hg__law_pick (abx_cons (bx1_var 0) (abx_cons (bx1_var 3) abx_nil))))
      sb_nil))))))))
theorem d__law_fresh {P : Program} {w : World} {K : PySem.W.Frag} {mg : Str → Option Value} {base : Heap} {G : Gc} {Γ : Env} {f : Addr} (hf_int : mg "int" = none) (hf_range : mg "range" = none) {con__law_draw : Con} {dfl__law_draw : List D} (hg__law_draw : Γ.fn "_law_draw" = some (.pl con__law_draw true dfl__law_draw)) (he__law_draw : FnE P w K mg base G 1 "_law_draw" con__law_draw dfl__law_draw 0) {con__law_pick : Con} {dfl__law_pick : List D} (hg__law_pick : Γ.fn "_law_pick" = some (.pl con__law_pick false dfl__law_pick)) (he__law_pick : FnE P w K mg base G 2 "_law_pick" con__law_pick dfl__law_pick 0)
    (cdv : Value) (A : Around) (outer : List PySem.Env) (s : Shared) (H : Hp) (E : XK) (Fm : Fm) (hG : Fm.G = G) (g : Gd (cxOf CX0 P w K mg base N__law_fresh "_law_fresh" (defScope (top 21)) f cdv A outer s H E).nox Fm noX) (hr : RoomG 2 (A.deeper (PyProof.Rows.envOfC "_law_fresh" (defScope (top 21)) s.heap.objs.size f cdv))) :
    SBX (cxOf CX0 P w K mg base N__law_fresh "_law_fresh" (defScope (top 21)) f cdv A outer s H E).nox Fm noX Γ (defBody (top 21)) c__law_fresh := by
  subst hG
  exact (sb_cons (ss_asgT g (sx_tup (ax_cons sx_str (ax_cons (sx_lst (ax_cons sx_str (ax_cons sx_str (ax_cons sx_str (ax_cons sx_str (ax_cons sx_str (ax_cons sx_str (ax_cons sx_str ax_nil)))))))) ax_nil))) (tgs_tup g.hK (tgss_cons (tgs_one 4) (tgss_cons (tgs_one 5) tgss_nil)) rfl) (pg_tup rfl (pgs_cons (pg_name (i := 4) g.nd rfl (by first | exact Or.inl rfl | exact Or.inr rfl)) (pgs_cons (pg_name (i := 5) g.nd rfl (by first | exact Or.inl rfl | exact Or.inr rfl)) pgs_nil))))
      (sb_cons (ss_asg g 2 (sx_join g (vx (sx_lc (own := [("_law_k", 3)]) g (ix_range1 g hf_range (sx_idx g (vx (sx_lst (ax_cons sx_int (ax_cons sx_int (ax_cons sx_int (ax_cons sx_int (ax_cons sx_int (ax_cons sx_int ax_nil)))))))) (vx (sx_callS g he__law_draw (hr.mono (by decide)) hg__law_draw (aax_cons (ax1_var 0) (aax_cons (ax1 sx_int) aax_nil)))))) (blkOk_by (by kernel_rfl)) rfl (tgs_one 3) (fun _ _ _ _ _ => (pg_name (i := 3) (Gd.blk g).nd rfl (by first | exact Or.inl rfl | exact Or.inr rfl))) (fun _ _ _ _ _ => tsx_nil) (fun _ _ _ _ _ => (sx_idx (Gd.blk g) (vx_var 4) (vx (sx_callS (Gd.blk g) he__law_draw (hr.mono (by decide)) hg__law_draw (aax_cons (ax1_var 0) (aax_cons (ax1 sx_int) aax_nil))))))))))
      (sb_cons (ss_asg g 2 (sx_ite (tx_cmp (c_eq g) (vx (sx_callS g he__law_draw (hr.mono (by decide)) hg__law_draw (aax_cons (ax1_var 0) (aax_cons (ax1 sx_int) aax_nil)))) (vx sx_int)) (sx_call g he__law_pick (hr.mono (by decide)) hg__law_pick (abx_cons (bx1_var 0) (abx_cons (bx1_var 5) abx_nil))) (sx_var 2)))
      (sb_cons (ss_for g PassesOwn.never (ix_range1 g hf_range (sx_mul g (vx sx_int) (vx (sx_toInt g hf_int (avx_cons (vx (sx_cmp (c_in g) (vx_var 2) (vx_var 1))) avx_nil))))) (tgs_one 3) (pg_name (i := 3) g.nd rfl (by first | exact Or.inl rfl | exact Or.inr rfl)) (sb_cons (ss_asg g 6 (sx_add g (vx (sx_add g (vx sx_str) (vx (sx_idx g (vx_var 4) (vx (sx_fdiv g (vx_var 3) (vx sx_int))))))) (vx (sx_idx g (vx_var 4) (vx (sx_mod g (vx_var 3) (vx sx_int)))))))
      (sb_cons (ss_if (tx_cmp (c_nin g) (vx_var 6) (vx_var 1)) (sb_cons (ss_ret (sx_var 6))
      sb_nil) sb_nil)
      sb_nil)))
      (sb_cons (ss_ret (sx_var 2))
      sb_nil)))))
theorem d__law_pool {P : Program} {w : World} {K : PySem.W.Frag} {mg : Str → Option Value} {base : Heap} {G : Gc} {Γ : Env} {f : Addr} (hf_range : mg "range" = none) {con__law_fresh : Con} {dfl__law_fresh : List D} (hg__law_fresh : Γ.fn "_law_fresh" = some (.pl con__law_fresh true dfl__law_fresh)) (he__law_fresh : FnE P w K mg base G 3 "_law_fresh" con__law_fresh dfl__law_fresh 0)
    (cdv : Value) (A : Around) (outer : List PySem.Env) (s : Shared) (H : Hp) (E : XK) (Fm : Fm) (hG : Fm.G = G) (g : Gd (cxOf CX0 P w K mg base N__law_pool "_law_pool" (defScope (top 22)) f cdv A outer s H E).nox Fm noX) (hr : RoomG 3 (A.deeper (PyProof.Rows.envOfC "_law_pool" (defScope (top 22)) s.heap.objs.size f cdv))) :
    SBX (cxOf CX0 P w K mg base N__law_pool "_law_pool" (defScope (top 22)) f cdv A outer s H E).nox Fm noX Γ (defBody (top 22)) c__law_pool := by
  subst hG
  exact (sb_cons (ss_asg g 2 (sx_lst ax_nil))
      (sb_cons (ss_for g PassesOwn.never (ix_range1 g hf_range (sx_var 1)) (tgs_one 3) (pg_name (i := 3) g.nd rfl (by first | exact Or.inl rfl | exact Or.inr rfl)) (sb_cons (ss_app g 2 (sx_callS g he__law_fresh (hr.mono (by decide)) hg__law_fresh (aax_cons (ax1_var 0) (aax_cons (ax1_var 2) aax_nil))))
      sb_nil))
      (sb_cons (ss_ret (sx_var 2))
      sb_nil)))
theorem d__law_between {P : Program} {w : World} {K : PySem.W.Frag} {mg : Str → Option Value} {base : Heap} {G : Gc} {Γ : Env} {f : Addr} (hf_len : mg "len" = none) (hf_range : mg "range" = none) {con__law_draw : Con} {dfl__law_draw : List D} (hg__law_draw : Γ.fn "_law_draw" = some (.pl con__law_draw true dfl__law_draw)) (he__law_draw : FnE P w K mg base G 1 "_law_draw" con__law_draw dfl__law_draw 0)
    (cdv : Value) (A : Around) (outer : List PySem.Env) (s : Shared) (H : Hp) (E : XK) (Fm : Fm) (hG : Fm.G = G) (g : Gd (cxOf CX0 P w K mg base N__law_between "_law_between" (defScope (top 23)) f cdv A outer s H E).nox Fm noX) (hr : RoomG 1 (A.deeper (PyProof.Rows.envOfC "_law_between" (defScope (top 23)) s.heap.objs.size f cdv))) :
    SBX (cxOf CX0 P w K mg base N__law_between "_law_between" (defScope (top 23)) f cdv A outer s H E).nox Fm noX Γ (defBody (top 23)) c__law_between := by
  subst hG
  exact (sb_cons (ss_asg g 3 (sx_lst ax_nil))
      (sb_cons (ss_for g PassesOwn.never (ix_range1 g hf_range (sx_callS g he__law_draw (hr.mono (by decide)) hg__law_draw (aax_cons (ax1_var 0) (aax_cons (ax1 sx_int) aax_nil)))) (tgs_one 4) (pg_name (i := 4) g.nd rfl (by first | exact Or.inl rfl | exact Or.inr rfl)) (sb_cons (ss_asg g 5 (sx_callS g he__law_draw (hr.mono (by decide)) hg__law_draw (aax_cons (ax1_var 0) (aax_cons (ax1 sx_int) aax_nil))))
      (sb_cons (ss_if (tx_cmp (c_lt g) (vx_var 5) (vx sx_int)) (sb_cons (ss_app g 3 (sx_tup (ax_cons sx_str (ax_cons (sx_add g (vx sx_int) (vx (sx_callS g he__law_draw (hr.mono (by decide)) hg__law_draw (aax_cons (ax1_var 0) (aax_cons (ax1_var 2) aax_nil))))) ax_nil))))
      sb_nil) (sb_cons (ss_if (tx_cmp (c_lt g) (vx_var 5) (vx sx_int)) (sb_cons (ss_app g 3 (sx_tup (ax_cons sx_str (ax_cons (sx_add g (vx sx_int) (vx (sx_callS g he__law_draw (hr.mono (by decide)) hg__law_draw (aax_cons (ax1_var 0) (aax_cons (ax1 sx_int) aax_nil))))) ax_nil))))
      sb_nil) (sb_cons (ss_if (tx_w (tw_and (tx_cmp (c_eq g) (vx_var 5) (vx sx_int)) (tw_and1 (tx_cmp (c_ne g) (vx_var 1) (vx (sx_lst ax_nil)))))) (sb_cons (ss_app g 3 (sx_tup (ax_cons sx_str (ax_cons (sx_pop g 1 (sx_callS g he__law_draw (hr.mono (by decide)) hg__law_draw (aax_cons (ax1_var 0) (aax_cons (ax1 (sx_len g hf_len (avx_cons (vx_var 1) avx_nil))) aax_nil)))) ax_nil))))
      sb_nil) sb_nil)
      sb_nil))
      sb_nil))
      sb_nil)))
      (sb_cons (ss_ret (sx_var 3))
      sb_nil)))
theorem d__law_row {P : Program} {w : World} {K : PySem.W.Frag} {mg : Str → Option Value} {base : Heap} {G : Gc} {Γ : Env} {f : Addr} {con__law_between : ConIO} (hg__law_between : Γ.fn "_law_between" = some (.io 1 con__law_between)) (he__law_between : IoE P w K mg base G 2 "_law_between" 1 con__law_between) {con__law_draw : Con} {dfl__law_draw : List D} (hg__law_draw : Γ.fn "_law_draw" = some (.pl con__law_draw true dfl__law_draw)) (he__law_draw : FnE P w K mg base G 1 "_law_draw" con__law_draw dfl__law_draw 0)
    (cdv : Value) (A : Around) (outer : List PySem.Env) (s : Shared) (H : Hp) (E : XK) (Fm : Fm) (hG : Fm.G = G) (g : Gd (cxOf CX0 P w K mg base N__law_row "_law_row" (defScope (top 24)) f cdv A outer s H E).nox Fm noX) (hr : RoomG 2 (A.deeper (PyProof.Rows.envOfC "_law_row" (defScope (top 24)) s.heap.objs.size f cdv))) :
    SBX (cxOf CX0 P w K mg base N__law_row "_law_row" (defScope (top 24)) f cdv A outer s H E).nox Fm noX Γ (defBody (top 24)) c__law_row := by
  subst hG
  exact (sb_cons (ss_par2 g 4 5 (sx_lst ax_nil) (sx_lst ax_nil))
      (sb_cons (ss_for g PassesOwn.never (ix g (sx_var 1)) (tgs_one 3) (pg_name (i := 3) g.nd rfl (by first | exact Or.inl rfl | exact Or.inr rfl)) (sb_cons (ss_ext g 4 (sx_io g he__law_between (hr.mono (by decide)) hg__law_between (aix_cons 5 (bx1_var 0) (aix_here 5 (abx_cons (bx1_var 2) abx_nil)))))
      (sb_cons (ss_app g 4 (sx_tup (ax_cons sx_str (ax_cons (sx_var 3) (ax_cons (sx_add g (vx sx_int) (vx (sx_callS g he__law_draw (hr.mono (by decide)) hg__law_draw (aax_cons (ax1_var 0) (aax_cons (ax1_var 2) aax_nil))))) ax_nil)))))
      (sb_cons (ss_app g 5 (sx_var 3))
      sb_nil))))
      (sb_cons (ss_ret (sx_add g (vx_var 4) (vx (sx_io g he__law_between (hr.mono (by decide)) hg__law_between (aix_cons 5 (bx1_var 0) (aix_here 5 (abx_cons (bx1_var 2) abx_nil)))))))
      sb_nil)))
theorem d__law_same {P : Program} {w : World} {K : PySem.W.Frag} {mg : Str → Option Value} {base : Heap} {G : Gc} {Γ : Env} {f : Addr} (hf_repr : mg "repr" = none)
    (cdv : Value) (A : Around) (outer : List PySem.Env) (s : Shared) (H : Hp) (E : XK) (Fm : Fm) (hG : Fm.G = G) (g : Gd (cxOf CX0 P w K mg base N__law_same "_law_same" (defScope (top 20)) f cdv A outer s H E).nox Fm noX) (hr : RoomG 0 (A.deeper (PyProof.Rows.envOfC "_law_same" (defScope (top 20)) s.heap.objs.size f cdv))) :
    SBX (cxOf CX0 P w K mg base N__law_same "_law_same" (defScope (top 20)) f cdv A outer s H E).nox Fm noX Γ (defBody (top 20)) c__law_same := by
  subst hG
  exact (sb_cons (ss_ret (sx_cmp (c_eq g) (vx (sx_repr g hf_repr (avx_cons (vx_var 0) avx_nil))) (vx (sx_repr g hf_repr (avx_cons (vx_var 1) avx_nil)))))
      sb_nil)
theorem d_Account___eq__ {P : Program} {w : World} {K : PySem.W.Frag} {mg : Str → Option Value} {base : Heap} {G : Gc} {Γ : Env} {f : Addr} (hf_isinstance : mg "isinstance" = none) (hna_Account_deeds : NoAttr K (G.ga "Account") "deeds") (hcl_Account : Cls K (G.ga "Account")) (hmc_Account : mg "Account" = some (.ref (G.ga "Account"))) (hic_Account : C8.InsC K (G.ga "Account")) (hoe_Account : PySem.W.findIn K (.ref (G.ga "Account")) "__ne__" = some (some (.builtin "object.__ne__")) ∧ PySem.W.mroIn K (G.ga "Account") (.type "object") = some true)
    (cdv : Value) (A : Around) (outer : List PySem.Env) (s : Shared) (H : Hp) (E : XK) (Fm : Fm) (hG : Fm.G = G) (g : Gd (cxOf CX0 P w K mg base N_Account___eq__ "Account.__eq__" (defScope (inClass (top 15) 4)) f cdv A outer s H E).nox Fm noX) (hr : RoomG 0 (A.deeper (PyProof.Rows.envOfC "Account.__eq__" (defScope (inClass (top 15) 4)) s.heap.objs.size f cdv))) :
    SBX (cxOf CX0 P w K mg base N_Account___eq__ "Account.__eq__" (defScope (inClass (top 15) 4)) f cdv A outer s H E).nox Fm noX Γ (defBody (inClass (top 15) 4)) c_Account___eq__ := by
  subst hG
  exact (sb_cons (ss_ret (sx_and (sx_isO g hf_isinstance hmc_Account hic_Account (vx_var 1)) (sx_one (sx_cmp (c_eq g) (vx (sx_att g "Account" hcl_Account hna_Account_deeds (sx_var 0))) (vx (sx_att g "Account" hcl_Account hna_Account_deeds (sx_var 1)))))))
      sb_nil)
theorem d_Account___len__ {P : Program} {w : World} {K : PySem.W.Frag} {mg : Str → Option Value} {base : Heap} {G : Gc} {Γ : Env} {f : Addr} (hf_len : mg "len" = none) (hna_Account_deeds : NoAttr K (G.ga "Account") "deeds") (hcl_Account : Cls K (G.ga "Account"))
    (cdv : Value) (A : Around) (outer : List PySem.Env) (s : Shared) (H : Hp) (E : XK) (Fm : Fm) (hG : Fm.G = G) (g : Gd (cxOf CX0 P w K mg base N_Account___len__ "Account.__len__" (defScope (inClass (top 15) 2)) f cdv A outer s H E).nox Fm noX) (hr : RoomG 0 (A.deeper (PyProof.Rows.envOfC "Account.__len__" (defScope (inClass (top 15) 2)) s.heap.objs.size f cdv))) :
    SBX (cxOf CX0 P w K mg base N_Account___len__ "Account.__len__" (defScope (inClass (top 15) 2)) f cdv A outer s H E).nox Fm noX Γ (defBody (inClass (top 15) 2)) c_Account___len__ := by
  subst hG
  exact (sb_cons (ss_ret (sx_len g hf_len (avx_cons (vx (sx_att g "Account" hcl_Account hna_Account_deeds (sx_var 0))) avx_nil)))
      sb_nil)
theorem d_Account_row {P : Program} {w : World} {K : PySem.W.Frag} {mg : Str → Option Value} {base : Heap} {G : Gc} {Γ : Env} {f : Addr} (hf_list : mg "list" = none) (hna_Account_deeds : NoAttr K (G.ga "Account") "deeds") (hcl_Account : Cls K (G.ga "Account"))
    (cdv : Value) (A : Around) (outer : List PySem.Env) (s : Shared) (H : Hp) (E : XK) (Fm : Fm) (hG : Fm.G = G) (g : Gd (cxOf CX0 P w K mg base N_Account_row "Account.row" (defScope (inClass (top 15) 1)) f cdv A outer s H E).nox Fm noX) (hr : RoomG 0 (A.deeper (PyProof.Rows.envOfC "Account.row" (defScope (inClass (top 15) 1)) s.heap.objs.size f cdv))) :
    SBX (cxOf CX0 P w K mg base N_Account_row "Account.row" (defScope (inClass (top 15) 1)) f cdv A outer s H E).nox Fm noX Γ (defBody (inClass (top 15) 1)) c_Account_row := by
  subst hG
  exact (sb_cons (ss_ret (sx_list g hf_list (avx_cons (vx (sx_att g "Account" hcl_Account hna_Account_deeds (sx_var 0))) avx_nil)))
      sb_nil)
theorem d_Account_furtherX {P : Program} {w : World} {K : PySem.W.Frag} {mg : Str → Option Value} {base : Heap} {G : Gc} {Γ : Env} {f : Addr} (hf_len : mg "len" = none) (hf_list : mg "list" = none) (hna_Account_deeds : NoAttr K (G.ga "Account") "deeds") (hcl_Account : Cls K (G.ga "Account")) (her_BadDeed : ErrE P K mg G "BadDeed" "index") {con_Account : Con} {dfl_Account : List D} (hg_Account : Γ.fn "Account" = some (.pl con_Account false dfl_Account)) (he_Account : MkE P w K mg base G 5 "Account" con_Account dfl_Account 0) {con_is_list : Con} {dfl_is_list : List D} (hg_is_list : Γ.fn "is_list" = some (.pl con_is_list true dfl_is_list)) (he_is_list : FnE P w K mg base G 1 "is_list" con_is_list dfl_is_list 0) {con_Account_row : Con} {dfl_Account_row : List D} (hg_Account_row : Γ.mth "Account" "row" = some (.pl con_Account_row false dfl_Account_row)) (he_Account_row : MtE P w K mg base G 1 "Account" "row" con_Account_row dfl_Account_row 0)
    (cdv : Value) (A : Around) (outer : List PySem.Env) (s : Shared) (H : Hp) (E : XK) (Fm : Fm) (Ex : XC) (hG : Fm.G = G) (g : Gd (cxOf (L2.CX P w) P w K mg base N_Account_furtherX "Account.further" (defScope (inClass (top 15) 5)) f cdv A outer s H E) Fm Ex) (hr : RoomG 6 (A.deeper (PyProof.Rows.envOfC "Account.further" (defScope (inClass (top 15) 5)) s.heap.objs.size f cdv))) :
    SBX (cxOf (L2.CX P w) P w K mg base N_Account_furtherX "Account.further" (defScope (inClass (top 15) 5)) f cdv A outer s H E) Fm Ex Γ (defBody (inClass (top 15) 5)) c_Account_furtherX := by
  subst hG
  exact (sb_cons (ss_if (tx_not (tx g (vx (sx_callS g he_is_list (hr.mono (by decide)) hg_is_list (aax_cons (ax1_var 1) aax_nil))))) (sb_cons (ss_raise g her_BadDeed hr (sx_len g hf_len (avx_cons (vx (sx_att g "Account" hcl_Account hna_Account_deeds (sx_var 0))) avx_nil)))
      sb_nil) sb_nil)
      (sb_cons (ss_ret (sx_mk g he_Account (hr.mono (by decide)) hg_Account (abx_cons (bx1 (sx_add g (vx (sx_mth0 g "Account" he_Account_row (hr.mono (by decide)) hg_Account_row (sx_var 0) (fun c hm ok hb hd => pe_methx0 (sx_var 0) c hm ok (hr.mono (by decide)) hb hd (fun σ => passAt g.tk σ)))) (vx (sx_list g hf_list (avx_cons (vx_var 1) avx_nil))))) abx_nil) (fun M ok hm hb hd => pe_makex M ok (hr.mono (by decide)) rfl hm hb hd (fun σ => passAt g.tk σ) (abx_cons (bx1 (sx_add g (vx (sx_mth0 g "Account" he_Account_row (hr.mono (by decide)) hg_Account_row (sx_var 0) (fun c hm ok hb hd => pe_methx0 (sx_var 0) c hm ok (hr.mono (by decide)) hb hd (fun σ => passAt g.tk σ)))) (vx (sx_list g hf_list (avx_cons (vx_var 1) avx_nil))))) abx_nil))))
      sb_nil))
theorem d_law {P : Program} {w : World} {K : PySem.W.Frag} {mg : Str → Option Value} {base : Heap} {G : Gc} {Γ : Env} {f : Addr} (hf_len : mg "len" = none) (hf_list : mg "list" = none) (hf_range : mg "range" = none) (hf_repr : mg "repr" = none) (hf_tuple : mg "tuple" = none) (hmc_Account : mg "Account" = some (.ref (G.ga "Account"))) (hic_Account : C8.InsC K (G.ga "Account")) (hoe_Account : PySem.W.findIn K (.ref (G.ga "Account")) "__ne__" = some (some (.builtin "object.__ne__")) ∧ PySem.W.mroIn K (G.ga "Account") (.type "object") = some true) {ask__law_index : Ask} (hga__law_index : Γ.ask "_law_index" = some ask__law_index) (hak__law_index : AskE P w K mg base G "_law_index" ask__law_index) {con_Account : Con} {dfl_Account : List D} (hg_Account : Γ.fn "Account" = some (.pl con_Account false dfl_Account)) (he_Account : MkE P w K mg base G 5 "Account" con_Account dfl_Account 0) {con__law_draw : Con} {dfl__law_draw : List D} (hg__law_draw : Γ.fn "_law_draw" = some (.pl con__law_draw true dfl__law_draw)) (he__law_draw : FnE P w K mg base G 1 "_law_draw" con__law_draw dfl__law_draw 0) {con__law_first_bad : Con} {dfl__law_first_bad : List D} (hg__law_first_bad : Γ.fn "_law_first_bad" = some (.pl con__law_first_bad false dfl__law_first_bad)) (he__law_first_bad : FnE P w K mg base G 3 "_law_first_bad" con__law_first_bad dfl__law_first_bad 0) {con__law_odd : Con} {dfl__law_odd : List D} (hg__law_odd : Γ.fn "_law_odd" = some (.pl con__law_odd false dfl__law_odd)) (he__law_odd : FnE P w K mg base G 3 "_law_odd" con__law_odd dfl__law_odd 0) {con__law_pick : Con} {dfl__law_pick : List D} (hg__law_pick : Γ.fn "_law_pick" = some (.pl con__law_pick false dfl__law_pick)) (he__law_pick : FnE P w K mg base G 2 "_law_pick" con__law_pick dfl__law_pick 0) {con__law_pool : Con} {dfl__law_pool : List D} (hg__law_pool : Γ.fn "_law_pool" = some (.pl con__law_pool false dfl__law_pool)) (he__law_pool : FnE P w K mg base G 4 "_law_pool" con__law_pool dfl__law_pool 0) {con__law_row : Con} {dfl__law_row : List D} (hg__law_row : Γ.fn "_law_row" = some (.pl con__law_row false dfl__law_row)) (he__law_row : FnE P w K mg base G 3 "_law_row" con__law_row dfl__law_row 0) {con__law_same : Con} {dfl__law_same : List D} (hg__law_same : Γ.fn "_law_same" = some (.pl con__law_same true dfl__law_same)) (he__law_same : FnE P w K mg base G 1 "_law_same" con__law_same dfl__law_same 0) {con_Account___eq__ : Con} {dfl_Account___eq__ : List D} (hg_Account___eq__ : Γ.mth "Account" "__eq__" = some (.pl con_Account___eq__ false dfl_Account___eq__)) (he_Account___eq__ : MtE P w K mg base G 1 "Account" "__eq__" con_Account___eq__ dfl_Account___eq__ 0) {con_Account___len__ : Con} {dfl_Account___len__ : List D} (hg_Account___len__ : Γ.mth "Account" "__len__" = some (.pl con_Account___len__ false dfl_Account___len__)) (he_Account___len__ : MtE P w K mg base G 1 "Account" "__len__" con_Account___len__ dfl_Account___len__ 0) {con_Account_further : Con} {dfl_Account_further : List D} (hg_Account_further : Γ.mth "Account" "further" = some (.pl con_Account_further false dfl_Account_further)) (he_Account_further : MtE P w K mg base G 7 "Account" "further" con_Account_further dfl_Account_further 0)
    (cdv : Value) (A : Around) (outer : List PySem.Env) (s : Shared) (H : Hp) (E : XK) (Fm : Fm) (hG : Fm.G = G) (g : Gd (cxOf CX0 P w K mg base N_law "law" (defScope (top 31)) f cdv A outer s H E).nox Fm noX) (htb : TabE (cxOf CX0 P w K mg base N_law "law" (defScope (top 31)) f cdv A outer s H E).nox Fm) (hr : RoomG 9 (A.deeper (PyProof.Rows.envOfC "law" (defScope (top 31)) s.heap.objs.size f cdv))) :
    SBX (cxOf CX0 P w K mg base N_law "law" (defScope (top 31)) f cdv A outer s H E).nox Fm noX Γ ((defBody (top 31)).drop 1) c_law := by
  subst hG
  exact (sb_cons (ss_for g PassesOwn.never (ix_range1 g hf_range sx_int) (tgs_one 2) (pg_name (i := 2) g.nd rfl (by first | exact Or.inl rfl | exact Or.inr rfl)) (sb_cons (ss_asgF g 3 (sx_call g he__law_pool (hr.mono (by decide)) hg__law_pool (abx_cons (bx1_var 1) (abx_cons (bx1 (sx_add g (vx sx_int) (vx (sx_callS g he__law_draw (hr.mono (by decide)) hg__law_draw (aax_cons (ax1_var 1) (aax_cons (ax1 sx_int) aax_nil)))))) abx_nil))))
      (sb_cons (ss_asgF g 4 (sx_list g hf_list (avx_cons (vx (sx_call g he__law_row (hr.mono (by decide)) hg__law_row (abx_cons (bx1_var 1) (abx_cons (bx1_var 3) (abx_cons (bx1 sx_int) abx_nil))))) avx_nil)))
      (sb_cons (ss_for g PassesOwn.never (ix_range1 g hf_range (sx_callS g he__law_draw (hr.mono (by decide)) hg__law_draw (aax_cons (ax1_var 1) (aax_cons (ax1 sx_int) aax_nil)))) (tgs_one 5) (pg_name (i := 5) g.nd rfl (by first | exact Or.inl rfl | exact Or.inr rfl)) (sb_cons (ss_asgF g 10 (sx_callS g he__law_draw (hr.mono (by decide)) hg__law_draw (aax_cons (ax1_var 1) (aax_cons (ax1 (sx_add g (vx (sx_len g hf_len (avx_cons (vx_var 4) avx_nil))) (vx sx_int))) aax_nil))))
      (sb_cons (ss_asgF g 11 (sx_ite (tx_w (tw_or (tx_eqNil g (vx_var 4) (vx (sx_lst ax_nil))) (tw_or1 (tx_cmp (c_gt g) (vx (sx_callS g he__law_draw (hr.mono (by decide)) hg__law_draw (aax_cons (ax1_var 1) (aax_cons (ax1 sx_int) aax_nil)))) (vx sx_int))))) (sx_call g he__law_odd (hr.mono (by decide)) hg__law_odd (abx_cons (bx1_var 1) (abx_cons (bx1_var 3) abx_nil))) (sx_call g he__law_pick (hr.mono (by decide)) hg__law_pick (abx_cons (bx1_var 1) (abx_cons (bx1_var 4) abx_nil)))))
      (sb_cons (ss_asgF g 4 (sx_add g (vx (sx_add g (vx (sx_sli g (vx_var 4) ox_none (ox_some (sx_var 10)))) (vx (sx_lst (ax_cons (sx_var 11) ax_nil))))) (vx (sx_sli g (vx_var 4) (ox_some (sx_add g (vx_var 10) (vx (sx_callS g he__law_draw (hr.mono (by decide)) hg__law_draw (aax_cons (ax1_var 1) (aax_cons (ax1 sx_int) aax_nil)))))) ox_none))))
      sb_nil))))
      (sb_cons (ss_par2 g 12 13 (sx_repr g hf_repr (avx_cons (vx_var 4) avx_nil)) (sx_call g he__law_first_bad (hr.mono (by decide)) hg__law_first_bad (abx_cons (bx1_var 4) abx_nil)))
      (sb_cons (ss_asg g 6 (sx_lst (ax_cons (sx_lam (k := 7) (caps := [4]) g hak__law_index hga__law_index htb (hr.mono (by decide)) (LamX.lamS_by (by kernel_rfl)) rfl (fun _ _ _ _ _ => rfl) (fun _ _ _ _ _ _ _ _ _ _ _ _ g2 hr2 => (sx_mk g2 he_Account (hr2.mono (by decide)) hg_Account (abx_cons (bx1_var 4) abx_nil) (fun M ok hm hb hd => pe_makex M ok (hr2.mono (by decide)) rfl hm hb hd (fun σ => passAt g2.tk σ) (abx_cons (bx1_var 4) abx_nil))))) ax_nil)))
      (sb_cons (ss_app g 6 (sx_lam (k := 7) (caps := [4]) g hak__law_index hga__law_index htb (hr.mono (by decide)) (LamX.lamS_by (by kernel_rfl)) rfl (fun _ _ _ _ _ => rfl) (fun _ _ _ _ _ _ _ _ _ _ _ _ g3 hr3 => (sx_mk g3 he_Account (hr3.mono (by decide)) hg_Account (abx_cons (bx1 (sx_tuple g3 hf_tuple (avx_cons (vx_var 4) avx_nil))) abx_nil) (fun M ok hm hb hd => pe_makex M ok (hr3.mono (by decide)) rfl hm hb hd (fun σ => passAt g3.tk σ) (abx_cons (bx1 (sx_tuple g3 hf_tuple (avx_cons (vx_var 4) avx_nil))) abx_nil))))))
      (sb_cons (ss_if (tx_not (tx g (vx (sx_callS g he__law_same (hr.mono (by decide)) hg__law_same (aax_cons (ax1_var 6) (aax_cons (ax1 (sx_rep g (vx (sx_lst (ax_cons (sx_var 13) ax_nil))) (vx sx_int))) aax_nil)))))) (sb_cons (ss_ret sx_bl)
      sb_nil) sb_nil)
      (sb_cons (ss_if (tx_cmp (c_ne g) (vx (sx_repr g hf_repr (avx_cons (vx_var 4) avx_nil))) (vx_var 12)) (sb_cons (ss_ret sx_bl)
      sb_nil) sb_nil)
      (sb_cons (ss_asgF g 7 (sx_ite (tx_cmp (c_isn g) (vx_var 13) (vx sx_non)) (sx_callS g he__law_draw (hr.mono (by decide)) hg__law_draw (aax_cons (ax1_var 1) (aax_cons (ax1 (sx_add g (vx (sx_len g hf_len (avx_cons (vx_var 4) avx_nil))) (vx sx_int))) aax_nil))) (sx_callS g he__law_draw (hr.mono (by decide)) hg__law_draw (aax_cons (ax1_var 1) (aax_cons (ax1 (sx_add g (vx_var 13) (vx sx_int))) aax_nil)))))
      (sb_cons (ss_asgF g 8 (sx_mk g he_Account (hr.mono (by decide)) hg_Account (abx_cons (bx1 (sx_sli g (vx_var 4) ox_none (ox_some (sx_var 7)))) abx_nil) (fun M ok hm hb hd => pe_makex M ok (hr.mono (by decide)) rfl hm hb hd (fun σ => passAt g.tk σ) (abx_cons (bx1 (sx_sli g (vx_var 4) ox_none (ox_some (sx_var 7)))) abx_nil))))
      (sb_cons (ss_if (tx_w (tw_or (tx_not (tx g (vx (sx_callS g he__law_same (hr.mono (by decide)) hg__law_same (aax_cons (ax1 (sx_lam (k := 7) (caps := [4, 7, 8]) g hak__law_index hga__law_index htb (hr.mono (by decide)) (LamX.lamS_by (by kernel_rfl)) rfl (fun _ _ _ _ _ => rfl) (fun _ _ _ _ _ _ _ _ _ _ _ _ g4 hr4 => (sx_mth g4 "Account" he_Account_further (hr4.mono (by decide)) hg_Account_further (sx_var 8) (abx_cons (bx1 (sx_sli g4 (vx_var 4) (ox_some (sx_var 7)) ox_none)) abx_nil) (fun c hm ok hb hd => pe_methx (sx_var 8) c hm ok (hr4.mono (by decide)) hb hd (fun σ => passAt g4.tk σ) (abx_cons (bx1 (sx_sli g4 (vx_var 4) (ox_some (sx_var 7)) ox_none)) abx_nil)))))) (aax_cons (ax1_var 13) aax_nil)))))) (tw_or1 (tx_cmp (c_ne g) (vx (sx_lenO g hf_len he_Account___len__ hg_Account___len__ (hr.mono (by decide)) (sx_var 8))) (vx_var 7))))) (sb_cons (ss_ret sx_bl)
      sb_nil) sb_nil)
      (sb_cons (ss_if (tx_w (tw_and (tx_cmp (c_isn g) (vx_var 13) (vx sx_non)) (tw_and1 (tx_one_ g he_Account___eq__ hg_Account___eq__ hoe_Account (hr.mono (by decide)) (sx_mth g "Account" he_Account_further (hr.mono (by decide)) hg_Account_further (sx_var 8) (abx_cons (bx1 (sx_tuple g hf_tuple (avx_cons (vx (sx_sli g (vx_var 4) (ox_some (sx_var 7)) ox_none)) avx_nil))) abx_nil) (fun c hm ok hb hd => pe_methx (sx_var 8) c hm ok (hr.mono (by decide)) hb hd (fun σ => passAt g.tk σ) (abx_cons (bx1 (sx_tuple g hf_tuple (avx_cons (vx (sx_sli g (vx_var 4) (ox_some (sx_var 7)) ox_none)) avx_nil))) abx_nil))) (sx_mk g he_Account (hr.mono (by decide)) hg_Account (abx_cons (bx1_var 4) abx_nil) (fun M ok hm hb hd => pe_makex M ok (hr.mono (by decide)) rfl hm hb hd (fun σ => passAt g.tk σ) (abx_cons (bx1_var 4) abx_nil))))))) (sb_cons (ss_ret sx_bl)
      sb_nil) sb_nil)
      (sb_cons (ss_asgF g 9 (sx_call g he__law_pick (hr.mono (by decide)) hg__law_pick (abx_cons (bx1_var 1) (abx_cons (bx1 (sx_lst (ax_cons sx_non (ax_cons sx_int (ax_cons sx_str (ax_cons sx_dct0 (ax_cons sx_bl ax_nil))))))) abx_nil))))
      (sb_cons (ss_asg g 6 (sx_lst (ax_cons (sx_lam (k := 7) (caps := [9]) g hak__law_index hga__law_index htb (hr.mono (by decide)) (LamX.lamS_by (by kernel_rfl)) rfl (fun _ _ _ _ _ => rfl) (fun _ _ _ _ _ _ _ _ _ _ _ _ g5 hr5 => (sx_mk g5 he_Account (hr5.mono (by decide)) hg_Account (abx_cons (bx1_var 9) abx_nil) (fun M ok hm hb hd => pe_makex M ok (hr5.mono (by decide)) rfl hm hb hd (fun σ => passAt g5.tk σ) (abx_cons (bx1_var 9) abx_nil))))) ax_nil)))
      (sb_cons (ss_app g 6 (sx_lam (k := 7) (caps := [8, 9]) g hak__law_index hga__law_index htb (hr.mono (by decide)) (LamX.lamS_by (by kernel_rfl)) rfl (fun _ _ _ _ _ => rfl) (fun _ _ _ _ _ _ _ _ _ _ _ _ g6 hr6 => (sx_mth g6 "Account" he_Account_further (hr6.mono (by decide)) hg_Account_further (sx_var 8) (abx_cons (bx1_var 9) abx_nil) (fun c hm ok hb hd => pe_methx (sx_var 8) c hm ok (hr6.mono (by decide)) hb hd (fun σ => passAt g6.tk σ) (abx_cons (bx1_var 9) abx_nil))))))
      (sb_cons (ss_if (tx_not (tx g (vx (sx_callS g he__law_same (hr.mono (by decide)) hg__law_same (aax_cons (ax1_var 6) (aax_cons (ax1 (sx_lst (ax_cons sx_int (ax_cons (sx_var 7) ax_nil)))) aax_nil)))))) (sb_cons (ss_ret sx_bl)
      sb_nil) sb_nil)
      sb_nil)))))))))))))))))
      (sb_cons (ss_ret sx_bl)
      sb_nil))
end PP
set_option Elab.async false
set_option linter.all false
set_option maxRecDepth 100000
set_option maxHeartbeats 2000000
set_option Elab.async false
set_option linter.all false
set_option maxRecDepth 100000
set_option maxHeartbeats 0
namespace PP
open PySem L2
def fnT : List (Str × FE) := [(("is_integer" : Str), FE.pl conIsInt true []),
  (("is_count" : Str), FE.pl conIsCount true []),
  (("is_list" : Str), FE.pl conIsList true []),
  (("is_mark" : Str), FE.pl conIsMark true []),
  (("deed_of" : Str), FE.pl conDeedG false []),
  (("checked_row" : Str), FE.pl conCheckedX false []),
  (("Account" : Str), FE.pl conMkX false [.kt []]),
  (("_law_draw" : Str), FE.pl conDrawN true []),
  (("_law_is_count" : Str), FE.pl conIsCountL false []),
  (("_law_is_mark" : Str), FE.pl conIsMarkL false []),
  (("_law_is_deed" : Str), FE.pl conIsDeedL false []),
  (("_law_first_bad" : Str), FE.pl conFirstBad false []),
  (("_law_pick" : Str), FE.pl conPick false []),
  (("_law_odd" : Str), FE.pl conOdd03 false []),
  (("_law_fresh" : Str), FE.pl conFresh true []),
  (("_law_pool" : Str), FE.pl conPool false []),
  (("_law_between" : Str), FE.io 1 conBetween),
  (("_law_row" : Str), FE.pl conRow false []),
  (("_law_same" : Str), FE.pl conSame true [])]
def mtT : List ((Str × Str) × FE) := [((("Account", "__eq__") : Str × Str), FE.pl conEq false []),
  ((("Account", "__len__") : Str × Str), FE.pl conLen false []),
  ((("Account", "row") : Str × Str), FE.pl conRowOf false []),
  ((("Account", "further") : Str × Str), FE.pl conFurtherX false [])]
def Gam : Env where
  fn := fun x => (fnT.find? fun p => decide (p.1 = x)).map (·.2)
  mth := fun c m => (mtT.find? fun p => decide (p.1.1 = c ∧ p.1.2 = m)).map (·.2)
  cst := fun x => if x = "LONGEST" then some (.int 8) else if x = "LETTERS" then some (.str letters) else if x = "DIGITS" then some (.str digits) else none
  ask := fun x => if x = "_law_index" then some (askB "BadDeed" "index") else none
theorem ga__law_index : Gam.ask "_law_index" = some (askB "BadDeed" "index") := by kernel_rfl
theorem g_is_integer : Gam.fn "is_integer" = some (.pl conIsInt true []) := by kernel_rfl
theorem g_is_count : Gam.fn "is_count" = some (.pl conIsCount true []) := by kernel_rfl
theorem g_is_list : Gam.fn "is_list" = some (.pl conIsList true []) := by kernel_rfl
theorem g_is_mark : Gam.fn "is_mark" = some (.pl conIsMark true []) := by kernel_rfl
theorem g_deed_of : Gam.fn "deed_of" = some (.pl conDeedG false []) := by kernel_rfl
theorem g_checked_row : Gam.fn "checked_row" = some (.pl conCheckedX false []) := by kernel_rfl
theorem g_Account : Gam.fn "Account" = some (.pl conMkX false [.kt []]) := by kernel_rfl
theorem g__law_draw : Gam.fn "_law_draw" = some (.pl conDrawN true []) := by kernel_rfl
theorem g__law_is_count : Gam.fn "_law_is_count" = some (.pl conIsCountL false []) := by kernel_rfl
theorem g__law_is_mark : Gam.fn "_law_is_mark" = some (.pl conIsMarkL false []) := by kernel_rfl
theorem g__law_is_deed : Gam.fn "_law_is_deed" = some (.pl conIsDeedL false []) := by kernel_rfl
theorem g__law_first_bad : Gam.fn "_law_first_bad" = some (.pl conFirstBad false []) := by kernel_rfl
theorem g__law_pick : Gam.fn "_law_pick" = some (.pl conPick false []) := by kernel_rfl
theorem g__law_odd : Gam.fn "_law_odd" = some (.pl conOdd03 false []) := by kernel_rfl
theorem g__law_fresh : Gam.fn "_law_fresh" = some (.pl conFresh true []) := by kernel_rfl
theorem g__law_pool : Gam.fn "_law_pool" = some (.pl conPool false []) := by kernel_rfl
theorem g__law_between : Gam.fn "_law_between" = some (.io 1 conBetween) := by kernel_rfl
theorem g__law_row : Gam.fn "_law_row" = some (.pl conRow false []) := by kernel_rfl
theorem g__law_same : Gam.fn "_law_same" = some (.pl conSame true []) := by kernel_rfl
theorem g_Account___eq__ : Gam.mth "Account" "__eq__" = some (.pl conEq false []) := by kernel_rfl
theorem g_Account___len__ : Gam.mth "Account" "__len__" = some (.pl conLen false []) := by kernel_rfl
theorem g_Account_row : Gam.mth "Account" "row" = some (.pl conRowOf false []) := by kernel_rfl
theorem g_Account_further : Gam.mth "Account" "further" = some (.pl conFurtherX false []) := by kernel_rfl
theorem gc_LONGEST : Gam.cst "LONGEST" = some (.int 8) := by kernel_rfl
theorem gc_LETTERS : Gam.cst "LETTERS" = some (.str letters) := by kernel_rfl
theorem facts {PG : Program} {w : World} {K : PySem.W.Frag} {h : Heap} {mg : Str → Option Value} {f : Addr} (X : K.In h) (Gn : h.Ns mainGlobals mg) (hfa : mg ("law" : Str) = some (.ref f)) (c : He.SaysD fa fn K) (cx : exK K = true) (hfile : PG.main.file = PySem.Challenge.pw_giftbars_k03_rows_refused.main.file) (htop : (PG.main.scope.names.lookup ("super" : Str)).isSome = false) :
    ∃ fd : FuncData, (∀ (s : Shared) (v : Value), BindsTo s fd ⟨[v], []⟩ [("_law_script", v)]) ∧ ∀ base : Heap, K.In base → base.Ns mainGlobals mg → (∀ p ∈ tf.map (He.cT K), LamX.TabB base mg p.1 p.2) → FnOg PG w K mg base CX0 10 f fd ["_law_script"] (spLaw K (tbOf tf K)) := by
  obtain ⟨hsm, cx⟩ := He.ba cx
  let G : Gc := ⟨K, fun x => He.ga K x, tbOf tf K, smB_ok hsm⟩
  have m_is_integer := He.glo_ok X Gn (c.fact 0 (f := .glo "is_integer") rfl)
  have m_is_count := He.glo_ok X Gn (c.fact 1 (f := .glo "is_count") rfl)
  have m_is_list := He.glo_ok X Gn (c.fact 2 (f := .glo "is_list") rfl)
  have m_is_mark := He.glo_ok X Gn (c.fact 3 (f := .glo "is_mark") rfl)
  have m_deed_of := He.glo_ok X Gn (c.fact 4 (f := .glo "deed_of") rfl)
  have m_checked_row := He.glo_ok X Gn (c.fact 5 (f := .glo "checked_row") rfl)
  have m__law_draw := He.glo_ok X Gn (c.fact 6 (f := .glo "_law_draw") rfl)
  have m__law_is_count := He.glo_ok X Gn (c.fact 7 (f := .glo "_law_is_count") rfl)
  have m__law_is_mark := He.glo_ok X Gn (c.fact 8 (f := .glo "_law_is_mark") rfl)
  have m__law_is_deed := He.glo_ok X Gn (c.fact 9 (f := .glo "_law_is_deed") rfl)
  have m__law_first_bad := He.glo_ok X Gn (c.fact 10 (f := .glo "_law_first_bad") rfl)
  have m__law_pick := He.glo_ok X Gn (c.fact 11 (f := .glo "_law_pick") rfl)
  have m__law_odd := He.glo_ok X Gn (c.fact 12 (f := .glo "_law_odd") rfl)
  have m__law_fresh := He.glo_ok X Gn (c.fact 13 (f := .glo "_law_fresh") rfl)
  have m__law_pool := He.glo_ok X Gn (c.fact 14 (f := .glo "_law_pool") rfl)
  have m__law_between := He.glo_ok X Gn (c.fact 15 (f := .glo "_law_between") rfl)
  have m__law_row := He.glo_ok X Gn (c.fact 16 (f := .glo "_law_row") rfl)
  have m__law_same := He.glo_ok X Gn (c.fact 17 (f := .glo "_law_same") rfl)
  have m__law_index := He.glo_ok X Gn (c.fact 18 (f := .glo "_law_index") rfl)
  have m_law := He.glo_ok X Gn (c.fact 19 (f := .glo "law") rfl)
  have m_Account := He.glo_ok X Gn (c.fact 20 (f := .glo "Account") rfl)
  have cl_Account : Cls K (G.ga "Account") := He.cls_ok (c.fact 21 (f := .cls "Account") rfl)
  have na_Account_deeds : NoAttr K (G.ga "Account") "deeds" := He.noat_ok (c.fact 22 (f := .noat "Account" "deeds") rfl)
  have na_Account_given : NoAttr K (G.ga "Account") "given" := He.noat_ok (c.fact 23 (f := .noat "Account" "given") rfl)
  have na_Account_since : NoAttr K (G.ga "Account") "since" := He.noat_ok (c.fact 24 (f := .noat "Account" "since") rfl)
  have mk_Account := He.mkr_ok (c.fact 25 (f := .mkr "Account") rfl)
  have f_tuple := He.free_ok X Gn (c.fact 26 (f := .free "tuple") rfl)
  have f_int := He.free_ok X Gn (c.fact 27 (f := .free "int") rfl)
  have f_list := He.free_ok X Gn (c.fact 28 (f := .free "list") rfl)
  have f_bool := He.free_ok X Gn (c.fact 29 (f := .free "bool") rfl)
  have f_isinstance := He.free_ok X Gn (c.fact 30 (f := .free "isinstance") rfl)
  have f_all := He.free_ok X Gn (c.fact 31 (f := .free "all") rfl)
  have f_len := He.free_ok X Gn (c.fact 32 (f := .free "len") rfl)
  have f_str := He.free_ok X Gn (c.fact 33 (f := .free "str") rfl)
  obtain ⟨tk_LETTERS, c_LETTERS⟩ := He.str_ok X Gn (c.fact 34 (f := .str "LETTERS" "abcdefghijklmnopqrstuvwxyz") rfl)
  obtain ⟨tk_LONGEST, c_LONGEST⟩ := He.int_ok X Gn (c.fact 35 (f := .int "LONGEST" 8) rfl)
  have f_enumerate := He.free_ok X Gn (c.fact 36 (f := .free "enumerate") rfl)
  have f_range := He.free_ok X Gn (c.fact 37 (f := .free "range") rfl)
  have f_repr := He.free_ok X Gn (c.fact 38 (f := .free "repr") rfl)
  have mt_Account_row := He.meth_ok (c.fact 39 (f := .meth "Account" "row") rfl)
  have mt_Account___eq__ := He.meth_ok (c.fact 40 (f := .meth "Account" "__eq__") rfl)
  have mt_Account___len__ := He.meth_ok (c.fact 41 (f := .meth "Account" "__len__") rfl)
  have mt_Account_further := He.meth_ok (c.fact 42 (f := .meth "Account" "further") rfl)
  have f_super := He.free_ok X Gn (c.fact 43 (f := .free "super") rfl)
  have m_BadDeed := He.glo_ok X Gn (c.fact 44 (f := .glo "BadDeed") rfl)
  obtain ⟨cx1, cx⟩ := He.ba cx
  have ec_Account := exCls_ok cx1 cl_Account
  clear cx1
  obtain ⟨cx1, cx⟩ := He.ba cx
  obtain ⟨er_BadDeed, ef_BadDeed⟩ := exErr_ok (P := PG) (mg := mg) (G := G) rfl (by rw [hfile]; exact cx1) htop (by decide) bnd_index (by decide) f_super m_BadDeed
  clear cx1
  obtain ⟨fd_is_integer, F_is_integer⟩ := c.def_ 0 rfl
  obtain ⟨fd_is_count, F_is_count⟩ := c.def_ 1 rfl
  obtain ⟨fd_is_list, F_is_list⟩ := c.def_ 2 rfl
  obtain ⟨fd_is_mark, F_is_mark⟩ := c.def_ 3 rfl
  obtain ⟨fd_deed_of, F_deed_of⟩ := c.def_ 4 rfl
  obtain ⟨fd_checked_row, F_checked_row⟩ := c.def_ 5 rfl
  obtain ⟨fd_Account___init__, F_Account___init__⟩ := c.def_ 6 rfl
  obtain ⟨fd__law_draw, F__law_draw⟩ := c.def_ 7 rfl
  obtain ⟨fd__law_is_count, F__law_is_count⟩ := c.def_ 8 rfl
  obtain ⟨fd__law_is_mark, F__law_is_mark⟩ := c.def_ 9 rfl
  obtain ⟨fd__law_is_deed, F__law_is_deed⟩ := c.def_ 10 rfl
  obtain ⟨fd__law_first_bad, F__law_first_bad⟩ := c.def_ 11 rfl
  obtain ⟨fd__law_pick, F__law_pick⟩ := c.def_ 12 rfl
  obtain ⟨fd__law_odd, F__law_odd⟩ := c.def_ 13 rfl
  obtain ⟨fd__law_fresh, F__law_fresh⟩ := c.def_ 14 rfl
  obtain ⟨fd__law_pool, F__law_pool⟩ := c.def_ 15 rfl
  obtain ⟨fd__law_between, F__law_between⟩ := c.def_ 16 rfl
  obtain ⟨fd__law_row, F__law_row⟩ := c.def_ 17 rfl
  obtain ⟨fd__law_same, F__law_same⟩ := c.def_ 18 rfl
  obtain ⟨fd_Account___eq__, F_Account___eq__⟩ := c.def_ 19 rfl
  obtain ⟨fd_Account___len__, F_Account___len__⟩ := c.def_ 20 rfl
  obtain ⟨fd_Account_row, F_Account_row⟩ := c.def_ 21 rfl
  obtain ⟨fd_Account_further, F_Account_further⟩ := c.def_ 22 rfl
  obtain ⟨fd__law_index, F__law_index⟩ := c.def_ 23 rfl
  obtain ⟨fd_law, F_law⟩ := c.def_ 24 rfl
  cases hfa.symm.trans m_law
  refine ⟨fd_law, fun s v => FunD.bindsA (ps := ["_law_script"]) F_law (fun _ _ _ _ _ _ us hl => match us, hl with | [_], _ => rfl) s [v] rfl, fun base _ _ htb => ?_⟩
  have O_is_integer := fnO_P (P := PG) (w := w) (mg := mg) (base := base) (Γ := Gam) (G := G) (con := conIsInt) (code := c_is_integer) (N := N_is_integer) (ps := ["thing"]) F_is_integer ⟨rfl, rfl, rfl, by decide +kernel, rfl, by decide +kernel, by decide +kernel⟩ (by decide) rfl (fun cdv A outer s H E Fm hG g hr => d_is_integer (hf_bool := f_bool) (hf_int := f_int) (hf_isinstance := f_isinstance) cdv A outer s H E Fm hG g hr) (p_is_integer ) (fun _ _ _ _ h => h)
  have E_is_integer : FnE PG w K mg base G 1 "is_integer" conIsInt [] 0 := fnE_0 (G := G) F_is_integer O_is_integer m_is_integer (FunD.bindsN F_is_integer fun _ _ _ _ _ _ us hl => match us, hl with | [_], _ => rfl) (fun as c K e h => by unfold conIsInt at h; repeat (first | (obtain ⟨rfl, _⟩ := h; rfl) | obtain ⟨_, h⟩ := h)) []
  have O_is_count := fnO_P (P := PG) (w := w) (mg := mg) (base := base) (Γ := Gam) (G := G) (con := conIsCount) (code := c_is_count) (N := N_is_count) (ps := ["thing"]) F_is_count ⟨rfl, rfl, rfl, by decide +kernel, rfl, by decide +kernel, by decide +kernel⟩ (by decide) rfl (fun cdv A outer s H E Fm hG g hr => d_is_count (hg_is_integer := g_is_integer) (he_is_integer := E_is_integer) cdv A outer s H E Fm hG g hr) (p_is_count g_is_integer) (fun _ _ _ _ h => h)
  have E_is_count : FnE PG w K mg base G 2 "is_count" conIsCount [] 0 := fnE_0 (G := G) F_is_count O_is_count m_is_count (FunD.bindsN F_is_count fun _ _ _ _ _ _ us hl => match us, hl with | [_], _ => rfl) (fun as c K e h => by unfold conIsCount at h; repeat (first | (obtain ⟨rfl, _⟩ := h; rfl) | obtain ⟨_, h⟩ := h)) []
  have O_is_list := fnO_P (P := PG) (w := w) (mg := mg) (base := base) (Γ := Gam) (G := G) (con := conIsList) (code := c_is_list) (N := N_is_list) (ps := ["thing"]) F_is_list ⟨rfl, rfl, rfl, by decide +kernel, rfl, by decide +kernel, by decide +kernel⟩ (by decide) rfl (fun cdv A outer s H E Fm hG g hr => d_is_list (hf_isinstance := f_isinstance) (hf_list := f_list) (hf_tuple := f_tuple) cdv A outer s H E Fm hG g hr) (p_is_list ) (fun _ _ _ _ h => h)
  have E_is_list : FnE PG w K mg base G 1 "is_list" conIsList [] 0 := fnE_0 (G := G) F_is_list O_is_list m_is_list (FunD.bindsN F_is_list fun _ _ _ _ _ _ us hl => match us, hl with | [_], _ => rfl) (fun as c K e h => by unfold conIsList at h; repeat (first | (obtain ⟨rfl, _⟩ := h; rfl) | obtain ⟨_, h⟩ := h)) []
  have O_is_mark := fnO_P (P := PG) (w := w) (mg := mg) (base := base) (Γ := Gam) (G := G) (con := conIsMark) (code := c_is_mark) (N := N_is_mark) (ps := ["thing"]) F_is_mark ⟨rfl, rfl, rfl, by decide +kernel, rfl, by decide +kernel, by decide +kernel⟩ (by decide) rfl (fun cdv A outer s H E Fm hG g hr => d_is_mark (hf_all := f_all) (hf_isinstance := f_isinstance) (hf_len := f_len) (hf_str := f_str) (hc_LETTERS := gc_LETTERS) (hm_LETTERS := c_LETTERS) (hc_LONGEST := gc_LONGEST) (hm_LONGEST := c_LONGEST) cdv A outer s H E Fm hG g hr) (p_is_mark gc_LONGEST gc_LETTERS) (fun _ _ _ _ h => h)
  have E_is_mark : FnE PG w K mg base G 1 "is_mark" conIsMark [] 0 := fnE_0 (G := G) F_is_mark O_is_mark m_is_mark (FunD.bindsN F_is_mark fun _ _ _ _ _ _ us hl => match us, hl with | [_], _ => rfl) (fun as c K e h => by unfold conIsMark at h; repeat (first | (obtain ⟨rfl, _⟩ := h; rfl) | obtain ⟨_, h⟩ := h)) []
  have O_deed_of := fnO_P (P := PG) (w := w) (mg := mg) (base := base) (Γ := Gam) (G := G) (con := conDeedG) (code := c_deed_of) (N := N_deed_of) (ps := ["thing"]) F_deed_of ⟨rfl, rfl, rfl, by decide +kernel, rfl, by decide +kernel, by decide +kernel⟩ (by decide) rfl (fun cdv A outer s H E Fm hG g hr => d_deed_of (hf_isinstance := f_isinstance) (hf_len := f_len) (hf_str := f_str) (hf_tuple := f_tuple) (hg_is_count := g_is_count) (he_is_count := E_is_count) (hg_is_list := g_is_list) (he_is_list := E_is_list) (hg_is_mark := g_is_mark) (he_is_mark := E_is_mark) cdv A outer s H E Fm hG g hr) (p_deedG g_is_list g_is_mark g_is_count) (fun _ _ _ _ h => h)
  have E_deed_of : FnE PG w K mg base G 3 "deed_of" conDeedG [] 0 := fnE_0 (G := G) F_deed_of O_deed_of m_deed_of (FunD.bindsN F_deed_of fun _ _ _ _ _ _ us hl => match us, hl with | [_], _ => rfl) (fun as c K e h => by unfold conDeedG at h; repeat (first | (obtain ⟨rfl, _⟩ := h; rfl) | obtain ⟨_, h⟩ := h)) []
  have O_checked_row := fnO_X (P := PG) (w := w) (mg := mg) (base := base) (Γ := Gam) (G := G) (con := conCheckedX) (code := c_checked_rowX) (N := N_checked_rowX) (ps := ["row"]) F_checked_row ⟨rfl, rfl, rfl, by decide +kernel, rfl, by decide +kernel, by decide +kernel⟩ (by decide) rfl (fun cdv A outer s H E Fm Ex hG g hr => d_checked_rowX (hf_enumerate := f_enumerate) (hg_deed_of := g_deed_of) (he_deed_of := E_deed_of) (hg_is_list := g_is_list) (he_is_list := E_is_list) (her_BadDeed := er_BadDeed) cdv A outer s H E Fm Ex hG g hr) (p_checked_rowX g_is_list g_deed_of)
  have E_checked_row : FnE PG w K mg base G 4 "checked_row" conCheckedX [] 0 := fnE_0 (G := G) F_checked_row O_checked_row m_checked_row (FunD.bindsN F_checked_row fun _ _ _ _ _ _ us hl => match us, hl with | [_], _ => rfl) (fun as c K e h => by unfold conCheckedX at h; repeat (first | (obtain ⟨rfl, _⟩ := h; rfl) | obtain ⟨_, h⟩ := h)) []
  have O_Account := init_okX (P := PG) (w := w) (mg := mg) (base := base) (G := G) (Γ := Gam) F_Account___init__ ⟨rfl, rfl, rfl, by decide +kernel, rfl, by decide +kernel, by decide +kernel⟩ rfl g_checked_row ⟨cl_Account, na_Account_deeds, na_Account_given, na_Account_since⟩ (fun cdv A outer s H E Fm Ex hG g hr => d_Account___init__X (hf_tuple := f_tuple) (hg := g_checked_row) (he := E_checked_row) cdv A outer s H E Fm Ex hG g hr)
  have E_Account : MkE PG w K mg base G 5 "Account" conMkX [.kt []] 0 := mkE_I (G := G) O_Account mk_Account m_Account (by obtain ⟨ds, hv, hb⟩ := FunD.binds1 (ps := ["self", "row"]) F_Account___init__ 2 1 (by simp [He.DefD.dvs, df, dm]) (by simp [He.DefD.dvs, df, dm]) (fun T kV doc pm an cdv ct us its h1 h2 => match us, its, h1, h2 with | [_, _], [_], _, _ => ⟨_, rfl, rfl⟩); simp [He.DefD.dvs, df, dm] at hv; cases hv; exact hb) .nil (fun as c K e h => by unfold conMkX at h; repeat (first | (obtain ⟨rfl, _⟩ := h; rfl) | obtain ⟨_, h⟩ := h)) (fun _ _ _ => .nil)
  have E__law_draw : FnE PG w K mg base G 1 "_law_draw" conDrawN [] 0 :=
    ⟨_, fd__law_draw, ["_law_stream", "_law_many"], [], [], ((draw_okZ (z := "_law_mixed") (G := G) F__law_draw ⟨rfl, rfl, rfl, by decide +kernel, rfl, by decide +kernel, by decide +kernel⟩ (fun cdv A outer s H E hr => d__law_draw f_int cdv A outer s H E hr)).imp (fun vs H Q E z => liftSp_imp (fun as c K e h => drawN_imp h) z)).cx, m__law_draw, F__law_draw.kp, (FunD.bindsN F__law_draw fun _ _ _ _ _ _ us hl => match us, hl with | [_, _], _ => rfl), .nil, (fun as c K e h => by obtain ⟨_, rfl, _⟩ := h; rfl), fun _ _ _ => .nil⟩
  have O__law_is_count := fnO_P (P := PG) (w := w) (mg := mg) (base := base) (Γ := Gam) (G := G) (con := conIsCountL) (code := c__law_is_count) (N := N__law_is_count) (ps := ["_law_thing"]) F__law_is_count ⟨rfl, rfl, rfl, by decide +kernel, rfl, by decide +kernel, by decide +kernel⟩ (by decide) rfl (fun cdv A outer s H E Fm hG g hr => d__law_is_count (hf_bool := f_bool) (hf_int := f_int) (hf_isinstance := f_isinstance) cdv A outer s H E Fm hG g hr) (p_is_countL ) (fun _ _ _ _ h => h)
  have E__law_is_count : FnE PG w K mg base G 1 "_law_is_count" conIsCountL [] 0 := fnE_0 (G := G) F__law_is_count O__law_is_count m__law_is_count (FunD.bindsN F__law_is_count fun _ _ _ _ _ _ us hl => match us, hl with | [_], _ => rfl) (fun as c K e h => by unfold conIsCountL at h; repeat (first | (obtain ⟨rfl, _⟩ := h; rfl) | obtain ⟨_, h⟩ := h)) []
  have O__law_is_mark := fnO_P (P := PG) (w := w) (mg := mg) (base := base) (Γ := Gam) (G := G) (con := conIsMarkL) (code := c__law_is_mark) (N := N__law_is_mark) (ps := ["_law_thing"]) F__law_is_mark ⟨rfl, rfl, rfl, by decide +kernel, rfl, by decide +kernel, by decide +kernel⟩ (by decide) rfl (fun cdv A outer s H E Fm hG g hr => d__law_is_mark (hf_all := f_all) (hf_isinstance := f_isinstance) (hf_len := f_len) (hf_str := f_str) cdv A outer s H E Fm hG g hr) (p_is_markL ) (fun _ _ _ _ h => h)
  have E__law_is_mark : FnE PG w K mg base G 1 "_law_is_mark" conIsMarkL [] 0 := fnE_0 (G := G) F__law_is_mark O__law_is_mark m__law_is_mark (FunD.bindsN F__law_is_mark fun _ _ _ _ _ _ us hl => match us, hl with | [_], _ => rfl) (fun as c K e h => by unfold conIsMarkL at h; repeat (first | (obtain ⟨rfl, _⟩ := h; rfl) | obtain ⟨_, h⟩ := h)) []
  have O__law_is_deed := fnO_P (P := PG) (w := w) (mg := mg) (base := base) (Γ := Gam) (G := G) (con := conIsDeedL) (code := c__law_is_deed) (N := N__law_is_deed) (ps := ["_law_thing"]) F__law_is_deed ⟨rfl, rfl, rfl, by decide +kernel, rfl, by decide +kernel, by decide +kernel⟩ (by decide) rfl (fun cdv A outer s H E Fm hG g hr => d__law_is_deed (hf_isinstance := f_isinstance) (hf_len := f_len) (hf_list := f_list) (hf_str := f_str) (hf_tuple := f_tuple) (hg__law_is_count := g__law_is_count) (he__law_is_count := E__law_is_count) (hg__law_is_mark := g__law_is_mark) (he__law_is_mark := E__law_is_mark) cdv A outer s H E Fm hG g hr) (p_is_deedL g__law_is_mark g__law_is_count) (fun _ _ _ _ h => h)
  have E__law_is_deed : FnE PG w K mg base G 2 "_law_is_deed" conIsDeedL [] 0 := fnE_0 (G := G) F__law_is_deed O__law_is_deed m__law_is_deed (FunD.bindsN F__law_is_deed fun _ _ _ _ _ _ us hl => match us, hl with | [_], _ => rfl) (fun as c K e h => by unfold conIsDeedL at h; repeat (first | (obtain ⟨rfl, _⟩ := h; rfl) | obtain ⟨_, h⟩ := h)) []
  have O__law_first_bad := fnO_P (P := PG) (w := w) (mg := mg) (base := base) (Γ := Gam) (G := G) (con := conFirstBad) (code := c__law_first_bad) (N := N__law_first_bad) (ps := ["_law_row_here"]) F__law_first_bad ⟨rfl, rfl, rfl, by decide +kernel, rfl, by decide +kernel, by decide +kernel⟩ (by decide) rfl (fun cdv A outer s H E Fm hG g hr => d__law_first_bad (hf_enumerate := f_enumerate) (hf_int := f_int) (hg__law_is_deed := g__law_is_deed) (he__law_is_deed := E__law_is_deed) cdv A outer s H E Fm hG g hr) (p_firstBad g__law_is_deed) (fun _ _ _ _ h => h)
  have E__law_first_bad : FnE PG w K mg base G 3 "_law_first_bad" conFirstBad [] 0 := fnE_0 (G := G) F__law_first_bad O__law_first_bad m__law_first_bad (FunD.bindsN F__law_first_bad fun _ _ _ _ _ _ us hl => match us, hl with | [_], _ => rfl) (fun as c K e h => by unfold conFirstBad at h; repeat (first | (obtain ⟨rfl, _⟩ := h; rfl) | obtain ⟨_, h⟩ := h)) []
  have O__law_pick := fnO_P (P := PG) (w := w) (mg := mg) (base := base) (Γ := Gam) (G := G) (con := conPick) (code := c__law_pick) (N := N__law_pick) (ps := ["_law_stream", "_law_things"]) F__law_pick ⟨rfl, rfl, rfl, by decide +kernel, rfl, by decide +kernel, by decide +kernel⟩ (by decide) rfl (fun cdv A outer s H E Fm hG g hr => d__law_pick (hf_len := f_len) (hg__law_draw := g__law_draw) (he__law_draw := E__law_draw) cdv A outer s H E Fm hG g hr) (p_pick g__law_draw) (fun _ _ _ _ h => h)
  have E__law_pick : FnE PG w K mg base G 2 "_law_pick" conPick [] 0 := fnE_0 (G := G) F__law_pick O__law_pick m__law_pick (FunD.bindsN F__law_pick fun _ _ _ _ _ _ us hl => match us, hl with | [_, _], _ => rfl) (fun as c K e h => by unfold conPick at h; repeat (first | (obtain ⟨rfl, _⟩ := h; rfl) | obtain ⟨_, h⟩ := h)) []
  have O__law_odd := fnO_P (P := PG) (w := w) (mg := mg) (base := base) (Γ := Gam) (G := G) (con := conOdd03) (code := c__law_odd03) (N := N__law_odd03) (ps := ["_law_stream", "_law_pool_here"]) F__law_odd ⟨rfl, rfl, rfl, by decide +kernel, rfl, by decide +kernel, by decide +kernel⟩ (by decide) rfl (fun cdv A outer s H E Fm hG g hr => d__law_odd03 (hg__law_pick := g__law_pick) (he__law_pick := E__law_pick) cdv A outer s H E Fm hG g hr) (p_odd03 g__law_pick) (fun _ _ _ _ h => h)
  have E__law_odd : FnE PG w K mg base G 3 "_law_odd" conOdd03 [] 0 := fnE_0 (G := G) F__law_odd O__law_odd m__law_odd (FunD.bindsN F__law_odd fun _ _ _ _ _ _ us hl => match us, hl with | [_, _], _ => rfl) (fun as c K e h => by unfold conOdd03 at h; repeat (first | (obtain ⟨rfl, _⟩ := h; rfl) | obtain ⟨_, h⟩ := h)) []
  have O__law_fresh := fnO_P (P := PG) (w := w) (mg := mg) (base := base) (Γ := Gam) (G := G) (con := conFresh) (code := c__law_fresh) (N := N__law_fresh) (ps := ["_law_stream", "_law_known"]) F__law_fresh ⟨rfl, rfl, rfl, by decide +kernel, rfl, by decide +kernel, by decide +kernel⟩ (by decide) rfl (fun cdv A outer s H E Fm hG g hr => d__law_fresh (hf_int := f_int) (hf_range := f_range) (hg__law_draw := g__law_draw) (he__law_draw := E__law_draw) (hg__law_pick := g__law_pick) (he__law_pick := E__law_pick) cdv A outer s H E Fm hG g hr) (p_fresh g__law_draw g__law_pick) (fun _ _ _ _ h => h)
  have E__law_fresh : FnE PG w K mg base G 3 "_law_fresh" conFresh [] 0 := fnE_0 (G := G) F__law_fresh O__law_fresh m__law_fresh (FunD.bindsN F__law_fresh fun _ _ _ _ _ _ us hl => match us, hl with | [_, _], _ => rfl) (fun as c K e h => by unfold conFresh at h; repeat (first | (obtain ⟨rfl, _⟩ := h; rfl) | obtain ⟨_, h⟩ := h)) []
  have O__law_pool := fnO_P (P := PG) (w := w) (mg := mg) (base := base) (Γ := Gam) (G := G) (con := conPool) (code := c__law_pool) (N := N__law_pool) (ps := ["_law_stream", "_law_many"]) F__law_pool ⟨rfl, rfl, rfl, by decide +kernel, rfl, by decide +kernel, by decide +kernel⟩ (by decide) rfl (fun cdv A outer s H E Fm hG g hr => d__law_pool (hf_range := f_range) (hg__law_fresh := g__law_fresh) (he__law_fresh := E__law_fresh) cdv A outer s H E Fm hG g hr) (p_pool g__law_fresh) (fun _ _ _ _ h => h)
  have E__law_pool : FnE PG w K mg base G 4 "_law_pool" conPool [] 0 := fnE_0 (G := G) F__law_pool O__law_pool m__law_pool (FunD.bindsN F__law_pool fun _ _ _ _ _ _ us hl => match us, hl with | [_, _], _ => rfl) (fun as c K e h => by unfold conPool at h; repeat (first | (obtain ⟨rfl, _⟩ := h; rfl) | obtain ⟨_, h⟩ := h)) []
  have E__law_between : IoE PG w K mg base G 2 "_law_between" 1 conBetween := ioE_of (Γ := Gam) (N := N__law_between) (ps := ["_law_stream", "_law_begun", "_law_wide"]) F__law_between ⟨rfl, rfl, rfl, by decide +kernel, rfl, by decide +kernel, by decide +kernel⟩ (by decide) rfl m__law_between (FunD.bindsN F__law_between fun _ _ _ _ _ _ us hl => match us, hl with | [_, _, _], _ => rfl) (fun cdv A outer s H E Fm hG g hr => d__law_between (hf_len := f_len) (hf_range := f_range) (hg__law_draw := g__law_draw) (he__law_draw := E__law_draw) cdv A outer s H E Fm hG g hr) (p_between g__law_draw) (fun as xs c K h => by unfold conBetween at h; repeat (first | (obtain ⟨rfl, _⟩ := h; rfl) | obtain ⟨_, h⟩ := h))
  have O__law_row := fnO_P (P := PG) (w := w) (mg := mg) (base := base) (Γ := Gam) (G := G) (con := conRow) (code := c__law_row) (N := N__law_row) (ps := ["_law_stream", "_law_pool_here", "_law_wide"]) F__law_row ⟨rfl, rfl, rfl, by decide +kernel, rfl, by decide +kernel, by decide +kernel⟩ (by decide) rfl (fun cdv A outer s H E Fm hG g hr => d__law_row (hg__law_between := g__law_between) (he__law_between := E__law_between) (hg__law_draw := g__law_draw) (he__law_draw := E__law_draw) cdv A outer s H E Fm hG g hr) (p_row g__law_draw g__law_between) (fun _ _ _ _ h => h)
  have E__law_row : FnE PG w K mg base G 3 "_law_row" conRow [] 0 := fnE_0 (G := G) F__law_row O__law_row m__law_row (FunD.bindsN F__law_row fun _ _ _ _ _ _ us hl => match us, hl with | [_, _, _], _ => rfl) (fun as c K e h => by unfold conRow at h; repeat (first | (obtain ⟨rfl, _⟩ := h; rfl) | obtain ⟨_, h⟩ := h)) []
  have O__law_same := fnO_P (P := PG) (w := w) (mg := mg) (base := base) (Γ := Gam) (G := G) (con := conSame) (code := c__law_same) (N := N__law_same) (ps := ["_law_found", "_law_due"]) F__law_same ⟨rfl, rfl, rfl, by decide +kernel, rfl, by decide +kernel, by decide +kernel⟩ (by decide) rfl (fun cdv A outer s H E Fm hG g hr => d__law_same (hf_repr := f_repr) cdv A outer s H E Fm hG g hr) (p_same ) (fun _ _ _ _ h => h)
  have E__law_same : FnE PG w K mg base G 1 "_law_same" conSame [] 0 := fnE_0 (G := G) F__law_same O__law_same m__law_same (FunD.bindsN F__law_same fun _ _ _ _ _ _ us hl => match us, hl with | [_, _], _ => rfl) (fun as c K e h => by unfold conSame at h; repeat (first | (obtain ⟨rfl, _⟩ := h; rfl) | obtain ⟨_, h⟩ := h)) []
  have O_Account___eq__ := fnO_P (P := PG) (w := w) (mg := mg) (base := base) (Γ := Gam) (G := G) (con := conEq) (code := c_Account___eq__) (N := N_Account___eq__) (ps := ["self", "other"]) F_Account___eq__ ⟨rfl, rfl, rfl, by decide +kernel, rfl, by decide +kernel, by decide +kernel⟩ (by decide) rfl (fun cdv A outer s H E Fm hG g hr => d_Account___eq__ (hf_isinstance := f_isinstance) (hna_Account_deeds := na_Account_deeds) (hcl_Account := cl_Account) (hmc_Account := m_Account) (hic_Account := ec_Account.1) (hoe_Account := ec_Account.2) cdv A outer s H E Fm hG g hr) (p_eq ) (fun _ _ _ _ h => h)
  have E_Account___eq__ : MtE PG w K mg base G 1 "Account" "__eq__" conEq [] 0 := mtE_0 (G := G) F_Account___eq__ O_Account___eq__ cl_Account mt_Account___eq__ (FunD.bindsN F_Account___eq__ fun _ _ _ _ _ _ us hl => match us, hl with | [_, _], _ => rfl) (fun as c K e h => by unfold conEq at h; repeat (first | (obtain ⟨rfl, _⟩ := h; rfl) | obtain ⟨_, h⟩ := h)) []
  have O_Account___len__ := fnO_P (P := PG) (w := w) (mg := mg) (base := base) (Γ := Gam) (G := G) (con := conLen) (code := c_Account___len__) (N := N_Account___len__) (ps := ["self"]) F_Account___len__ ⟨rfl, rfl, rfl, by decide +kernel, rfl, by decide +kernel, by decide +kernel⟩ (by decide) rfl (fun cdv A outer s H E Fm hG g hr => d_Account___len__ (hf_len := f_len) (hna_Account_deeds := na_Account_deeds) (hcl_Account := cl_Account) cdv A outer s H E Fm hG g hr) (p_accLen ) (fun _ _ _ _ h => h)
  have E_Account___len__ : MtE PG w K mg base G 1 "Account" "__len__" conLen [] 0 := mtE_0 (G := G) F_Account___len__ O_Account___len__ cl_Account mt_Account___len__ (FunD.bindsN F_Account___len__ fun _ _ _ _ _ _ us hl => match us, hl with | [_], _ => rfl) (fun as c K e h => by unfold conLen at h; repeat (first | (obtain ⟨rfl, _⟩ := h; rfl) | obtain ⟨_, h⟩ := h)) []
  have O_Account_row := fnO_P (P := PG) (w := w) (mg := mg) (base := base) (Γ := Gam) (G := G) (con := conRowOf) (code := c_Account_row) (N := N_Account_row) (ps := ["self"]) F_Account_row ⟨rfl, rfl, rfl, by decide +kernel, rfl, by decide +kernel, by decide +kernel⟩ (by decide) rfl (fun cdv A outer s H E Fm hG g hr => d_Account_row (hf_list := f_list) (hna_Account_deeds := na_Account_deeds) (hcl_Account := cl_Account) cdv A outer s H E Fm hG g hr) (p_rowOf ) (fun _ _ _ _ h => h)
  have E_Account_row : MtE PG w K mg base G 1 "Account" "row" conRowOf [] 0 := mtE_0 (G := G) F_Account_row O_Account_row cl_Account mt_Account_row (FunD.bindsN F_Account_row fun _ _ _ _ _ _ us hl => match us, hl with | [_], _ => rfl) (fun as c K e h => by unfold conRowOf at h; repeat (first | (obtain ⟨rfl, _⟩ := h; rfl) | obtain ⟨_, h⟩ := h)) []
  have O_Account_further := fnO_X (P := PG) (w := w) (mg := mg) (base := base) (Γ := Gam) (G := G) (con := conFurtherX) (code := c_Account_furtherX) (N := N_Account_furtherX) (ps := ["self", "row"]) F_Account_further ⟨rfl, rfl, rfl, by decide +kernel, rfl, by decide +kernel, by decide +kernel⟩ (by decide) rfl (fun cdv A outer s H E Fm Ex hG g hr => d_Account_furtherX (hf_len := f_len) (hf_list := f_list) (hna_Account_deeds := na_Account_deeds) (hcl_Account := cl_Account) (hg_Account := g_Account) (he_Account := E_Account) (hg_is_list := g_is_list) (he_is_list := E_is_list) (her_BadDeed := er_BadDeed) (hg_Account_row := g_Account_row) (he_Account_row := E_Account_row) cdv A outer s H E Fm Ex hG g hr) (p_furtherX g_is_list g_Account_row g_Account)
  have E_Account_further : MtE PG w K mg base G 7 "Account" "further" conFurtherX [] 0 := mtE_0 (G := G) F_Account_further O_Account_further cl_Account mt_Account_further (FunD.bindsN F_Account_further fun _ _ _ _ _ _ us hl => match us, hl with | [_, _], _ => rfl) (fun as c K e h => by unfold conFurtherX at h; repeat (first | (obtain ⟨rfl, _⟩ := h; rfl) | obtain ⟨_, h⟩ := h)) []
  have ak__law_index : AskE PG w K mg base G "_law_index" (askB "BadDeed" "index") := ask_B F__law_index ⟨rfl, rfl, rfl, by decide +kernel, rfl, by decide +kernel, by decide +kernel⟩ m__law_index (FunD.bindsN F__law_index fun _ _ _ _ _ _ us hl => match us, hl with | [_], _ => rfl) ef_BadDeed (.inl rfl) rfl rfl (by decide) (by decide) (by decide) (by decide) (by decide)
  exact law_pure (Γ := Gam) (G := G) (N := N_law) (code := c_law) F_law ⟨rfl, rfl, rfl, by decide +kernel, rfl, by decide +kernel, by decide +kernel⟩ (by decide) rfl (fun cdv A outer s H E hcv hr nd => pss_cons (ps_set (i := 1) nd rfl (by first | exact Or.inl rfl | exact Or.inr rfl) (pe_lst (pa_cons (pe_callTy call_list_of rfl f_list (by decide +kernel) (pa_cons (pv 0) pa_nil)) (pa_cons pe_int (pa_cons pe_int (pa_cons pe_int pa_nil))))))
    (PSs.ex (p := fun Fm : Fm => Fm.G = G ∧ Fm.T.tb = G.tb) fun Fm hG => d_law (hf_len := f_len) (hf_list := f_list) (hf_range := f_range) (hf_repr := f_repr) (hf_tuple := f_tuple) (hg_Account := g_Account) (he_Account := E_Account) (hg__law_draw := g__law_draw) (he__law_draw := E__law_draw) (hg__law_first_bad := g__law_first_bad) (he__law_first_bad := E__law_first_bad) (hg__law_odd := g__law_odd) (he__law_odd := E__law_odd) (hg__law_pick := g__law_pick) (he__law_pick := E__law_pick) (hg__law_pool := g__law_pool) (he__law_pool := E__law_pool) (hg__law_row := g__law_row) (he__law_row := E__law_row) (hg__law_same := g__law_same) (he__law_same := E__law_same) (hga__law_index := ga__law_index) (hak__law_index := ak__law_index) (hmc_Account := m_Account) (hic_Account := ec_Account.1) (hoe_Account := ec_Account.2) (hg_Account___eq__ := g_Account___eq__) (he_Account___eq__ := E_Account___eq__) (hg_Account___len__ := g_Account___len__) (he_Account___len__ := E_Account___len__) (hg_Account_further := g_Account_further) (he_Account_further := E_Account_further) cdv A outer s H E Fm hG.1 ⟨by rw [hG.1]; rfl, rfl, nd, hr.units, hr.g, takes_no, hG.2.trans (by rw [hG.1])⟩ (tabE_law hG.1 rfl (hcv.symm.trans F_law.codeC) htb) hr)) (p_law g__law_draw g__law_pick g__law_pool g__law_row g__law_odd g__law_first_bad g_Account g__law_same g_Account_further g_Account___len__ g_Account___eq__ ga__law_index)
end PP
open PySem PySem.W PySem.Calls PyProof.Rows
theorem PySem.Challenge.cw_giftbars_k03_rows_refused_holds : PySem.Challenge.rw_giftbars_k03_rows_refused.Holds := by
  w_on; o_law
  refine HandSHeadRun.head_any (r := OpenLaw.row PySem.Challenge.rw_giftbars_k03_rows_refused) (q := view (OpenLaw.row PySem.Challenge.rw_giftbars_k03_rows_refused).prog [31]) (H := PP.hk) (ob := PP.ob) (M := 4000) (loose := PP.loose) (d := HandSHeadRun.topDef (OpenLaw.row PySem.Challenge.rw_giftbars_k03_rows_refused).prog 31) (kwd := []) PP.ob_eq
    (by kernel_rfl) (fun s => by kernel_rfl) PP.run (by kernel_rfl) (by kernel_rfl) (by kernel_rfl) (by rfl) (by first | assumption | decide +kernel) (by decide +kernel) ⟨rfl, rfl, rfl, rfl, rfl, by decide +kernel⟩ ?hw ?hc
  case hw => w_witness2
  case hc =>
    refine LamX.walk_ofET (l := PySem.Challenge.rw_giftbars_k03_rows_refused) (n := 63) (k := 10) (x := "_law_script") (CX := L2.CX0) rfl (by decide) (by kernel_rfl) ⟨⟨rfl, by decide, by decide⟩, rfl⟩ ?F (fun _ _ _ _ z => z)
    intro w mg fa h Y G hmg0
    obtain ⟨K, KX, c⟩ := Y
    have hmg : mg ("law" : PySem.Str) = some (.ref fa) := by
      have e : (HandSHeadRun.topDef (OpenLaw.row PySem.Challenge.rw_giftbars_k03_rows_refused).prog 31).name = ("law" : PySem.Str) := by kernel_rfl
      rw [← e]
      exact hmg0
    obtain ⟨fd, hb, hF⟩ := PP.facts (PG := (PySem.Challenge.rw_giftbars_k03_rows_refused).prog) (w := w) KX G hmg c.d c.more rfl (by kernel_rfl)
    refine ⟨K, fd, PP.tf.map (He.cT K), PP.spLaw K (PP.tbOf PP.tf K), KX, fun p hp => ?_, fun p hp => ?_, PP.codeHd_all KX c.hd, hb, fun H a ns hl hbt hH hS => ⟨a, ns, PP.tabs0 hH, rfl, hS, hl, hbt, fun _ => rfl⟩, hF⟩
    · obtain ⟨q, hq, rfl⟩ := List.mem_map.mp hp
      exact c.empty q hq
    · obtain ⟨q, hq, rfl⟩ := List.mem_map.mp hp
      exact c.out q hq
