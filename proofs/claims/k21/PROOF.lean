import PyProof.Rows.All
import Wide.All
import OpenK.AllK
import Wide.FinOn
import KE.KStateDown
import Lean
import HandS.ForMost
import HandS.ForExc
import HandS.Defaults
import HandS.IsInst
import HandS.MakeKwOnly
import HandS.MakeKw
import HandS.Walk
import HandS.Evl
import HandS.Codes
import HandS.Flow
import HandS.Style
import HandS.Head0
import HandS.Head1
import HandS.Head2
import HandS.HeadEnd
import HandS.HeadHook1
import HandS.HeadHook2
import HandS.HeadHook3
import HandS.HeadHook4
import KE.KExcSuper
import KE.KExcTry
import HandS.TryMany
import HandS.CallSlots
import HandS.ExcOwn
import HandS.TryOnly
import HandS.ExcSuper
import HandS.ExcField
import HandS.ExcIs
import HandS.ExcValue
import HandS.Property
import HandS.ClsMeth
import HandS.OwnEq
import HandS.FStr
import HandS.Zip
import HandS.TupAny
import KE.GoesZip
import KE.GoesMore
import PySem.Challenge.RW_mapsizes_k21_steps_known
set_option Elab.async false
set_option linter.all false
set_option maxRecDepth 100000
set_option maxHeartbeats 1000000
local macro_rules | `(tactic| walk_at "s") => `(tactic| repeat (first | refine ⟨_, rfl, ?_⟩ | refine ⟨_, _, rfl, rfl, ?_⟩ | refine iteT ?_ | refine iteF ?_ | refine ⟨_, rfl, rfl, ?_⟩))
namespace G
open PySem PySem.Spec PyProof.Rows L2
/-! ### defs that are called where nothing is being shown (repr's guards are empty) -/
structure FnG (P : Program) (w : World) (K : PySem.W.Frag) (mg : Str → Option Value) (bs : Heap) (CX : CXT) (k : Nat) (f : Addr) (fd : FuncData) (ps : List Str) (sp : Sp) : Prop where
  num : ∀ vs H Q E, sp vs H Q E → vs.length = ps.length
  go : ∀ (A : Around) (out : List Env) (s : Shared) (H : Hp) (ar : Args) (us : List Value) (vs : List V) (Q : VK) (E : XK), A.guards = some [] → Room k A → Env0 P w K mg bs A out s H →
    BindsTo s fd ar (ps.zip us) → Vals vs us → sp vs H Q E → codeAny (model P w) A (.call (.ref f) ar) (CR CX out P w H s Q E) s
theorem FnG.of {P : Program} {w : World} {K : PySem.W.Frag} {mg : Str → Option Value} {bs : Heap} {CX : CXT} {k : Nat} {f : Addr} {fd : FuncData} {ps : List Str} {sp : Sp} (F : FnOk P w K mg bs CX k f fd ps sp) : FnG P w K mg bs CX k f fd ps sp :=
  ⟨F.len, fun A out s H ar us vs Q E _ => F.run A out s H ar us vs Q E⟩
theorem fng_of {CX : CXT} {P : Program} {w : World} {K : PySem.W.Frag} {mg : Str → Option Value} {bs : Heap} {k : Nat} {f : Addr} {nm ql : Str} {pr : Arguments} {bd : List Stmt} {sc : Scope} {dV kV dc pm cv ct oc : Value} {an od : Option Addr}
    {sl : Array (Option Value)} {N ps : List Str} {sp : Sp} (lk : K.lookup f = some ⟨oc, od, .func (PySem.W.fnOf nm ql pr bd sc dV kV dc pm an cv ct), sl⟩) (hc : PySem.W.codeIn K cv ql = true) (S : FnScope N ps sc)
    (num : ∀ vs H Q E, sp vs H Q E → vs.length = ps.length)
    (hb : ∀ (A : Around) (out : List Env) (s : Shared) (H : Hp) (vs : List V) (Q : VK) (E : XK), A.guards = some [] → Room k (A.deeper (envOfC ql sc s.heap.objs.size f cv)) → sp vs H Q E →
      ∃ t, PSs (cxOf CX P w K mg bs N ql sc f cv A out s H E) bd t ∧ t { nx := fun _ H' => Q .non H', rt := Q } (start N vs) H) :
    FnG P w K mg bs CX (k + 1) f (PySem.W.fnOf nm ql pr bd sc dV kV dc pm an cv ct) ps sp := by
  refine ⟨num, fun A out s H ar us vs Q E hgu hr e0 hbi r hsp => ?_⟩
  -- at this A the body is walked as in any other def
  have B : ∀ (A' : Around) (out' : List Env) (s' : Shared) (H' : Hp) (vs' : List V) (Q' : VK) (E' : XK), Room k (A'.deeper (envOfC ql sc s'.heap.objs.size f cv)) → (sp vs' H' Q' E' ∧ A'.guards = some []) →
      ∃ t, PSs (cxOf CX P w K mg bs N ql sc f cv A' out' s' H' E') bd t ∧ t { nx := fun _ G' => Q' .non G', rt := Q' } (start N vs') H' := fun A' out' s' H' vs' Q' E' hr' h' => hb A' out' s' H' vs' Q' E' h'.2 hr' h'.1
  have hl := num _ _ _ _ hsp
  have KX : K.In s.heap := e0.mod.kin.keeps fun b o e => (e0.bs b o e).1
  have lim : s.heap.NoLimit := e0.mod.nolimit.keeps fun b o e => (e0.bs b o e).1
  have hk : ∀ y ∈ ps.zip us, sc.names.lookup y.1 = some .local ∨ (sc.names.lookup y.1 = some .cell ∧ ((cellsFrom (s.heap.objs.size + 1) sc.names []).lookup y.1).isSome = true) := by
    rintro ⟨n, v⟩ hy
    rcases S.par n (List.of_mem_zip hy).1 with q | q
    · exact Or.inl q
    · exact Or.inr ⟨q, PySem.W.cellsFrom_some _ _ _ (Or.inl q)⟩
  refine codeAny_call_function hr.depth (KX _ _ lk) rfl S.co S.gen rfl (PySem.W.codeRec_of KX hc) (hbi _ _ _ _ ?_)
  refine wpAny_newFunctionEnv_cells S.kind hk fun env he s1 x => ?_
  subst he
  refine ⟨lim.keeps x.toInCall.keep, codeAny_func ?_⟩
  obtain ⟨t, ht, hq⟩ := B A out s H vs Q E (hr.deeper _) ⟨hsp, hgu⟩
  have I : Inv (cxOf CX P w K mg bs N ql sc f cv A out s H E) [] (start N vs) H s1 := inv_start S hr.hd e0 hl r x
  refine wpAny_mono (ht.run [] s1 (start N vs) H _ I hq) (fun fl s' hs => ?_) fun e s' hs => hs
  cases fl with
  | ret u =>
    obtain ⟨v, σ', H', J, rv, q⟩ := hs
    exact ⟨v, H', J.os, J.bare, J.base, J.hok, rv, q⟩
  | next =>
    obtain ⟨σ', H', J, q⟩ := hs
    exact ⟨V.non, H', J.os, J.bare, J.base, J.hok, rfl, q⟩
  | brk => exact hs.elim fun _ z => z.elim fun _ z => z.2.elim
  | cont => exact hs.elim fun _ z => z.elim fun _ z => z.2.elim
theorem FunD.okG {P : Program} {w : World} {K : PySem.W.Frag} {mg : Str → Option Value} {bs : Heap} {x ql : Str} {pr : Arguments} {bd : List Stmt} {sc : Scope} {dvs : List V} {kws : List (Str × V)} {f : Addr} {fd : FuncData} {CX : CXT} {N ps : List Str} {k : Nat} {sp : Sp}
    (F : FunD K x ql pr bd sc dvs kws f fd) (S : FnScope N ps sc) (num : ∀ vs H Q E, sp vs H Q E → vs.length = ps.length)
    (hb : ∀ (cv : Value) (A : Around) (out : List Env) (s : Shared) (H : Hp) (vs : List V) (Q : VK) (E : XK), A.guards = some [] → Room k (A.deeper (envOfC ql sc s.heap.objs.size f cv)) → sp vs H Q E →
      ∃ t, PSs (cxOf CX P w K mg bs N ql sc f cv A out s H E) bd t ∧ t { nx := fun _ H' => Q .non H', rt := Q } (start N vs) H) : FnG P w K mg bs CX (k + 1) f fd ps sp := by
  obtain ⟨oc, od, dV, kV, dc, pm, an, cv, ct, sl, rfl, lk, hcd, _, _⟩ := F.ex
  exact fng_of lk hcd S num (hb cv)
section
variable {X : Cx} {CX : CXT} {k : Nat} {f : Addr} {fd : FuncData} {ps ks : List Str} {sp : Sp} {dvs : List V} {ds : List Value} {E : XK} {x : Str} {p pos : Pos} {e : Expr} {es : List Expr} {kws : List Keyword} {t tk : TA}
theorem run_G {pins : List (Addr × Obj)} {σ : L2.St} {H : Hp} {s : Shared} {Q : VK} {us : List Value} {vs : List V} (F : FnG X.prog X.w X.K X.mg X.base CX k f fd ps sp) (gu : X.A.guards = some []) (hr : Room k X.A) (hb : Binds X.K fd ps ds) (hd : Vals dvs ds) (hx : Passes CX X E)
    (I : Inv X pins σ H s) (r : Vals vs us) (h : sp (vs ++ dvs) H Q E) : wpAny (model X.prog X.w) X.A (call (.ref f) us) (EP X pins σ Q) X.xe s := by
  have rr : Vals (vs ++ dvs) (us ++ ds) := r.append hd
  have hl : (us ++ ds).length = ps.length := rr.length.symm.trans (F.num _ _ _ _ h)
  refine wpAny_call (codeAny_mono (F.go X.A X.stack s H ⟨us, []⟩ (us ++ ds) (vs ++ dvs) Q E gu hr I.env0 (hb s us I.kIn hl) rr h) fun z s' hq => ?_)
  cases z with
  | error b => exact hx pins σ H s b s' I hq
  | ok fl => cases fl with
    | ret u => exact I.after hq
    | next => exact hq.elim
    | brk => exact hq.elim
    | cont => exact hq.elim
theorem pe_callG (F : FnG X.prog X.w X.K X.mg X.base CX k f fd ps sp) (gu : X.A.guards = some []) (hr : Room k X.A) (hg : Gl X x) (hm : X.mg x = some (.ref f)) (hk : PySem.W.keepIn X.K (.ref f) = true) (hb : Binds X.K fd ps ds) (hd : Vals dvs ds) (hx : Passes CX X E)
    (ha : PA X (e :: es) t) (h1 : (x == ("__debug__" : Str)) = false := by decide) (h2 : starEach (e :: es) X.env = (false, eval e X.env) :: starEach es X.env := by rfl) (h3 : (backTo pos (starEach es X.env)).any (·.1) = false := by rfl) :
    PE X (.Call (.Name x p) (e :: es) [] pos) (tCall sp dvs E t) :=
  ⟨fun pins s σ H Q I h => wpAny_Call_Name_kw (ld_glob I hg hm (PySem.W.callWith_K (h₀ := X.base) I.ok.mod.kin hk (thn (ha.run pos pins s σ H _ I h) fun us s1 ⟨vs, H1, I1, r, q⟩ => ⟨I1.kIn, run_G F gu hr hb hd hx I1 r q⟩) h2 h3) h1)⟩
/-! ### f(k = v, ..), no positional value -/
theorem pe_callN0 {g : List Value → List Value → List Value} {gV : List V → List V → List V} (F : FnOk X.prog X.w X.K X.mg X.base CX k f fd ps sp) (hr : Room k X.A) (hg : Gl X x) (hm : X.mg x = some (.ref f)) (hk : PySem.W.keepIn X.K (.ref f) = true) (hb : KBn X.K fd ps 0 ks g gV) (hx : Passes CX X E) (hkw : PK X kws tk)
    (h1 : (backToKw pos (keywordEach kws X.env)).all (·.1.isSome) = true := by rfl) (h2 : (backToKw pos (keywordEach kws X.env)).filterMap (·.1) = ks := by rfl) (h3 : (x == ("__debug__" : Str)) = false := by decide)
    (h4 : ((backTo pos (starEach [] X.env)).any (·.1) || (backToKw pos (keywordEach kws X.env)).any (·.1.isNone)) = false := by rfl) :
    PE X (.Call (.Name x p) [] kws pos) (tCallN 0 ks.length sp gV E tNil tk) := by
  refine ⟨fun pins s σ H Q I h => wpAny_Call_Name_kw (ld_glob I hg hm (PySem.W.callWith_KW0 (h₀ := X.base) I.ok.mod.kin hk h1 (thn (hkw.run pos pins s σ H _ I h) fun ws s2 ⟨zs, H2, I2, rz, l1, l2, q2⟩ => ⟨I2.kIn, ?_⟩) h4) h3)⟩
  rw [h2]
  exact run_fnN (us := []) (vs := []) F hr hb hx I2 .nil rz rfl l2 q2
end
/-- keywords for a def without defaults: g puts the values in the parameters' order -/
theorem FunD.kbindsN {K : PySem.W.Frag} {x ql : Str} {pr : Arguments} {bd : List Stmt} {sc : Scope} {kws : List (Str × V)} {f : Addr} {fd : FuncData} {ps : List Str} (F : FunD K x ql pr bd sc [] kws f fd) (n : Nat) (ks : List Str) (g : {α : Type} → List α → List α → List α)
    (hrel : ∀ {vs zs : List V} {us ws : List Value}, Vals vs us → Vals zs ws → Vals (g vs zs) (g us ws))
    (h : ∀ (kV doc pm : Value) (an : Option Addr) (cv ct : Value) (us ws : List Value), us.length = n → ws.length = ks.length → bindArgs (PySem.W.fnOf x ql pr bd sc .none kV doc pm an cv ct) ⟨us, ks.zip ws⟩ = pure (ps.zip (g us ws))) :
    KBn K fd ps n ks (fun us ws => g us ws) (fun vs zs => g vs zs) := by
  obtain ⟨oc, od, dV, kV, dc, pm, an, cv, ct, sl, rfl, lk, hcd, hD, hK⟩ := F.ex
  rcases hD with ⟨_, rfl⟩ | ⟨e, _⟩
  · exact ⟨fun s us ws _ l1 l2 => .of_eq (h kV dc pm an cv ct us ws l1 l2), fun r1 r2 => hrel r1 r2⟩
  · exact absurd rfl e
/-! ### repr of lists and tuples of plain things -/
theorem call_reprD {X : Cx} (gu : X.A.guards = some []) (hu : X.A.units + 64 < cLine) : CallR X (.builtin "repr") (fun xs H Q => ∃ (a : Addr) (d : PyData), xs = [.ref a] ∧ Dp X.K H (.ref a) d ∧ d.showable = true ∧ d.hasDict = false ∧ d.depth ≤ 60 ∧ d.shown.length ≤ sizeLine ∧ Q (.str d.shown) H) := by
  intro pins s σ H xs us Q I r h
  obtain ⟨a, d, rfl, hd, h1, h2, h3, h4, q⟩ := h
  obtain ⟨u, rfl, ru⟩ := vals1 r
  cases (show u = Value.ref a from ru)
  obtain ⟨as, rd⟩ := Dp.reads I d (.ref a) (.ref a) hd rfl
  exact repr_of_reads' rd h1 (fun z => absurd (z.symm.trans h2) (by decide)) gu (by omega) (fun b o e => e) (fun h' u tk hk => ⟨.str _, H, I.kept hk, ⟨_, rfl⟩, q⟩) h4
/-! ### xs == [] -/
theorem op_eqNil {X : Cx} (hu : X.A.units + 64 < cLine) : OpR X (compareOp .Eq) (fun x y H Q => ∃ (a b : Addr) (xs : List V), x = .ref a ∧ y = .ref b ∧ SqL X.K H a xs ∧ SqL X.K H b [] ∧ Q (.bl xs.isEmpty) H) := by
  intro pins s σ H x y v u Q I rx ry h
  obtain ⟨a, b, xs, rfl, rfl, h1, h2, q⟩ := h
  cases (show v = Value.ref a from rx)
  cases (show u = Value.ref b from ry)
  obtain ⟨is, r1, p1, _⟩ := I.list h1
  obtain ⟨js, r2, p2, _⟩ := I.list h2
  cases r2
  have hu' : X.A.units < cLine := by omega
  cases xs with
  | nil =>
    cases r1
    exact SeqAt.eq_listAt (e := fun _ => true) p1.isList p2.isList rfl hu' (fun j h1 _ => absurd h1 (Nat.not_lt_zero j)) ⟨.bl true, H, I, rfl, q⟩
  | cons x xs =>
    have hl : is.length = xs.length + 1 := r1.length.symm
    exact SeqAt.eq_list_lengthsAt p1.isList p2.isList (by simp [hl]) hu' ⟨.bl false, H, I, rfl, q⟩
/-! ### callables by name -/
structure CalG (P : Program) (w : World) (K : PySem.W.Frag) (mg : Str → Option Value) (bs : Heap) (k : Nat) (x : Str) (sp : Sp) (dvs : List V) : Prop where
  ex : ∃ (f : Addr) (fd : FuncData) (ps : List Str) (ds : List Value), FnG P w K mg bs CX0 k f fd ps sp ∧ mg x = some (.ref f) ∧ PySem.W.keepIn K (.ref f) = true ∧ Binds K fd ps ds ∧ Vals dvs ds
structure CalK (P : Program) (w : World) (K : PySem.W.Frag) (mg : Str → Option Value) (bs : Heap) (k : Nat) (x : Str) (sp : Sp) (n : Nat) (ks : List Str) (gV : List V → List V → List V) : Prop where
  ex : ∃ (f : Addr) (fd : FuncData) (ps : List Str) (g : List Value → List Value → List Value), FnOk P w K mg bs CX0 k f fd ps sp ∧ mg x = some (.ref f) ∧ PySem.W.keepIn K (.ref f) = true ∧ KBn K fd ps n ks g gV
section
variable {X : Cx} {k j n : Nat} {sp : Sp} {dvs : List V} {x : Str} {p pos : Pos} {e : Expr} {es : List Expr} {kws : List Keyword} {t tk : TA} {ks : List Str} {gV : List V → List V → List V}
theorem pe_cG (c : CalG X.prog X.w X.K X.mg X.base k x sp dvs) (gu : X.A.guards = some []) (hr : Room j X.A) (hk : k ≤ j) (hg : Gl X x) (ha : PA X (e :: es) t)
    (h1 : (x == ("__debug__" : Str)) = false := by decide) (h2 : starEach (e :: es) X.env = (false, eval e X.env) :: starEach es X.env := by rfl) (h3 : (backTo pos (starEach es X.env)).any (·.1) = false := by rfl) :
    PE X (.Call (.Name x p) (e :: es) [] pos) (tCall sp dvs E0 t) := by
  obtain ⟨f, fd, ps, ds, F, hm, kp, b, d⟩ := c.ex
  exact pe_callG F gu (hr.mono hk) hg hm kp b d pass0 ha h1 h2 h3
theorem pe_k0 (c : CalK X.prog X.w X.K X.mg X.base k x sp 0 ks gV) (hr : Room j X.A) (hk : k ≤ j) (hg : Gl X x) (hkw : PK X kws tk)
    (h1 : (backToKw pos (keywordEach kws X.env)).all (·.1.isSome) = true := by rfl) (h2 : (backToKw pos (keywordEach kws X.env)).filterMap (·.1) = ks := by rfl) (h3 : (x == ("__debug__" : Str)) = false := by decide)
    (h4 : ((backTo pos (starEach [] X.env)).any (·.1) || (backToKw pos (keywordEach kws X.env)).any (·.1.isNone)) = false := by rfl) :
    PE X (.Call (.Name x p) [] kws pos) (tCallN 0 ks.length sp gV E0 tNil tk) := by
  obtain ⟨f, fd, ps, g, F, hm, kp, b⟩ := c.ex
  exact pe_callN0 F (hr.mono hk) hg hm kp b pass0 hkw h1 h2 h3 h4
end
/-! ### the law's end, for a law whose def is so called -/
theorem end_G {P : Program} {w : World} {K : PySem.W.Frag} {mg mb : Str → Option Value} {CX : CXT} {k : Nat} {fa a : Addr} {fd : FuncData} {x : Str} {sp : Sp} {s : Shared} {vs : List Value} {ns : List Int}
    (KX : K.In s.heap) (hm : s.heap.Ns mainGlobals mg) (hb : s.heap.Ns builtinsNs mb) (hbb : ∀ y : Str, y ≠ "__name__" → mb y = bootBuiltins y) (lim : s.heap.NoLimit) (hg : s.gens = #[])
    (ha : s.heap.get? a = some { cls := .type "list", data := .seq vs.toArray }) (hi : IntsAre vs ns) (hl : ns.length ≤ sizeLine) (hr : Room k callerA)
    (F : ∀ bs : Heap, K.In bs → bs.Ns mainGlobals mg → FnG P w K mg bs CX k fa fd [x] sp) (bi : ∀ (s : Shared) (u : Value), BindsTo s fd ⟨[u], []⟩ [(x, u)])
    (hsp : ∀ H : Hp, SqL K H a (ns.map V.int) → sp [.ref a] H (fun v _ => v = .bl true) fun _ _ _ => False) (hCX : ∀ H e s', CX [] H s (fun _ _ _ => False) e s' → False) :
    codeAny (model P w) callerA (.call (.ref fa) ⟨[.ref a], []⟩) (fun r s' => r = .ok (.ret (.bool true)) ∧ OldK s.heap s'.heap ∧ s'.os = s.os ∧ AllBare s'.gens) s := by
  have main : ∀ H : Hp, SqL K H a (ns.map V.int) → HOk P w H s.heap → (∀ b u, H b = some u → b = a ∧ K.lookup a = none ∧ ∃ o xs, u = .frz o (.lst xs)) →
      codeAny (model P w) callerA (.call (.ref fa) ⟨[.ref a], []⟩) (fun r s' => r = .ok (.ret (.bool true)) ∧ OldK s.heap s'.heap ∧ s'.os = s.os ∧ AllBare s'.gens) s := by
    intro H hS hok hA
    have notD : ∀ {b : Addr} {o : Obj} {es : Array DictEntry} {n : Nat}, s.heap.get? b = some o → o.data = .dict es n → H b = none := by
      intro b o es n h1 h2
      cases q : H b with
      | none => rfl
      | some u =>
        obtain ⟨rfl, _, _⟩ := hA b u q
        rw [ha] at h1
        injection h1 with h1
        rw [← h1] at h2
        exact nomatch h2
    have nsB : ∀ {b : Addr} {m : Str → Option Value}, s.heap.Ns b m → (hidT s.heap H).Ns b m := by
      rintro b m ⟨o, es, n, h1, h2, h3⟩
      exact ⟨o, es, n, hidT_get h1 (notD h1 h2), h2, h3⟩
    have kB : K.In (hidT s.heap H) := by
      intro b o h1
      refine hidT_get (KX b o h1) ?_
      cases q : H b with
      | none => rfl
      | some u =>
        obtain ⟨rfl, h2, _⟩ := hA b u q
        rw [h2] at h1
        exact nomatch h1
    obtain ⟨mc, l1, l2⟩ := lim
    have M : Mod K mg (hidT s.heap H) := ⟨kB, nsB hm, ⟨mb, nsB hb, hbb⟩, mc, nsB l1, l2⟩
    have e0 : Env0 P w K mg (hidT s.heap H) callerA [] s H := ⟨rfl, M, fun b o e => of_hidT e, Nat.le_of_eq (hidT_size _ _), trivial, fun b hz => (List.not_mem_nil (show b ∈ ([] : List Addr) from hz)).elim, hok, .of_eq hg⟩
    refine codeAny_mono ((F _ kB (nsB hm)).go callerA [] s H ⟨[.ref a], []⟩ [.ref a] [.ref a] _ _ rfl hr e0 (bi s (.ref a)) (.cons rfl .nil) (hsp H hS)) fun r s' hz => ?_
    cases r with
    | error e => exact (hCX H e s' hz).elim
    | ok fl => cases fl with
      | next => exact hz.elim
      | brk => exact hz.elim
      | cont => exact hz.elim
      | ret u =>
        obtain ⟨v, H', o1, b1, un, ok', rv, rfl⟩ := hz
        cases (show u = Value.bool true from rv)
        refine ⟨rfl, OldK.of_keep fun b o e => ?_, o1, b1⟩
        cases q : H b with
        | none => exact un.keep b o e q (fun z => List.not_mem_nil (show b ∈ ([] : List Addr) from z)) (fun z => List.not_mem_nil (show b ∈ ([] : List Addr) from z))
        | some y =>
          obtain ⟨_, _, ob, xs, rfl⟩ := hA b y q
          have e1 := (hok b _ q).1
          have e2 := (ok' b _ (un.frzs b ob _ q)).1
          exact e2.trans (e1.symm.trans e)
  have rv := vals_ints hi
  cases hk : K.lookup a with
  | some o =>
    have e := KX a o hk
    rw [ha] at e
    injection e with e
    subst e
    exact main (fun _ => none) (.inr ⟨_, vs.toArray, _, hk, rfl, rfl, rfl, by rw [List.size_toArray, hi.length]; exact hl, by simpa using rv⟩) (fun b u z => nomatch (show (none : Option HO) = some u from z)) fun b u z => nomatch (show (none : Option HO) = some u from z)
  | none =>
    let u : HO := .frz { cls := .type "list", data := .seq vs.toArray } (.lst (ns.map V.int))
    have one : ∀ b y, (if b = a then some u else none) = some y → b = a ∧ y = u := by
      intro b y z
      by_cases q : b = a
      · rw [if_pos q] at z
        exact ⟨q, (Option.some.inj z).symm⟩
      · rw [if_neg q] at z
        exact nomatch z
    refine main (fun b => if b = a then some u else none) (.inl (.inr ⟨_, if_pos rfl⟩)) (fun b y z => ?_) fun b y z => ?_
    · obtain ⟨rfl, rfl⟩ := one b y z
      exact ⟨ha, by rw [List.length_map]; exact hl, vs, _, rv, ha⟩
    · obtain ⟨rfl, rfl⟩ := one b y z
      exact ⟨rfl, hk, _, _, rfl⟩
theorem walk_G {l : PySem.W.OpenLaw} {n k : Nat} {q : Program} {lo : List Str} {XP : (Str → Option Value) → Heap → Prop} {YP : World → Heap → Prop} {d : DefRec} {CX : World → CXT} {x : Str}
    (hn : l.most = some n) (hz : n ≤ sizeLine) (hd : d.params.defaults = []) (hr : Room k callerA)
    (F : ∀ (w : World) (mg : Str → Option Value) (fa : Addr) (h : Heap), YP w h → h.Ns mainGlobals mg → mg d.name = some (.ref fa) →
      ∃ (K : PySem.W.Frag) (fd : FuncData) (sp : Sp), K.In h ∧ (∀ (s : Shared) (u : Value), BindsTo s fd ⟨[u], []⟩ [(x, u)]) ∧
        (∀ (H : Hp) (a : Addr) (ns : List Int), ns.length ≤ n → SqL K H a (ns.map V.int) → sp [.ref a] H (fun v _ => v = .bl true) fun _ _ _ => False) ∧ ∀ bs : Heap, K.In bs → bs.Ns mainGlobals mg → FnG l.prog w K mg bs (CX w) k fa fd [x] sp)
    (hCX : ∀ (w : World) (H : Hp) (s : Shared) (e : Value) (s' : Shared), CX w [] H s (fun _ _ _ => False) e s' → False) :
    PySem.W.WalkO q lo XP YP l.row.toRowW d [] (fun f vs => PySem.call f vs) := by
  refine Att.attach_call hn hd fun w s₀ s₁ mg mb fa o pm cd doc a vs ns Gr Y ho hdt hcd hmg hobj hints hlen hg => ?_
  obtain ⟨K, fd, sp, KX, b1, b2, b3⟩ := F w mg fa _ Y Gr.T.g hmg
  exact end_G KX Gr.T.g Gr.T.b Gr.T.builtins Gr.T.nolimit hg hobj hints (Nat.le_trans hlen hz) hr b3 b1 (fun H => b2 H a ns hlen) fun H e s' => hCX w H s₁ e s'
end G

namespace G
open PySem PySem.Spec PyProof.Rows L2
/-! ### small things -/
theorem lenOf {vs : List V} {ps : List Str} {φ : Prop} (h : vs.length = ps.length ∧ φ) : vs.length = ps.length := h.1
theorem Same.rfl' {H : Hp} : Same H H := fun _ _ e => e
theorem Same.tr {H H1 H2 : Hp} (a : Same H H1) (b : Same H1 H2) : Same H H2 := fun x o e => b x o (a x o e)
theorem Same.new {H : Hp} {p : Addr} {o : HO} (h : H p = none) : Same H (upd H p o) := fun a u e => by
  rw [upd_ne (ne_of_none e h)]
  exact e
theorem Same.new' {H H1 : Hp} {p : Addr} {o : HO} (s : Same H H1) (h : H1 p = none) : Same H (upd H1 p o) := Same.tr s (Same.new h)
/-- what H does not know may change -/
theorem Same.chg {H H1 : Hp} {p : Addr} {o : HO} (s : Same H H1) (h : H p = none) : Same H (upd H1 p o) := fun a u e => by
  rw [upd_ne (ne_of_none e h)]
  exact s a u e
theorem Same.un {H H1 : Hp} (s : Same H H1) {p : Addr} (h : H1 p = none) : H p = none := by
  cases e : H p with
  | none => rfl
  | some o => rw [s p o e] at h; exact nomatch h
theorem lst_sq {K : PySem.W.Frag} {H : Hp} {a : Addr} {xs : List V} (h : H a = some (.lst xs)) : SqL K H a xs := Or.inl (Or.inl h)
theorem tup_sq {K : PySem.W.Frag} {H : Hp} {a : Addr} {xs : List V} (h : H a = some (.tup xs)) : SqT K H a xs := Or.inl (Or.inl h)
theorem Same.sqL {K : PySem.W.Frag} {H H' : Hp} {a : Addr} {xs : List V} (e : Same H H') (h : SqL K H a xs) : SqL K H' a xs := by
  rcases h with (h | ⟨o, h⟩) | h
  · exact Or.inl (Or.inl (e _ _ h))
  · exact Or.inl (Or.inr ⟨o, e _ _ h⟩)
  · exact Or.inr h
theorem Same.sqT {K : PySem.W.Frag} {H H' : Hp} {a : Addr} {xs : List V} (e : Same H H') (h : SqT K H a xs) : SqT K H' a xs := by
  rcases h with (h | ⟨o, h⟩) | h
  · exact Or.inl (Or.inl (e _ _ h))
  · exact Or.inl (Or.inr ⟨o, e _ _ h⟩)
  · exact Or.inr h
/-! ### what isinstance is asked of -/
def isI : V → Bool
  | .int _ => true
  | .bl _ => true
  | _ => false
def isB : V → Bool
  | .bl _ => true
  | _ => false
def isS : V → Bool
  | .str _ => true
  | _ => false
structure Ask (K : PySem.W.Frag) (H : Hp) (v : V) : Prop where
  ex : ∃ t, TyX K H v t ∧ PySem.W.kitOne K t (.type "int") = some (isI v) ∧ PySem.W.kitOne K t (.type "bool") = some (isB v) ∧ PySem.W.kitOne K t (.type "str") = some (isS v)
theorem ty_same {K : PySem.W.Frag} {H H' : Hp} {v : V} {t : Value} (s : Same H H') (h : TyX K H v t) : TyX K H' v t := by
  cases h with
  | base b =>
    refine .base ?_
    cases b with
    | non => exact .non
    | bl x => exact .bl x
    | int i => exact .int i
    | str x => exact .str x
    | flt x => exact .flt x
    | lst e => exact .lst (s _ _ e)
    | frz e => exact .frz (s _ _ e)
    | tup e => exact .tup (s _ _ e)
    | dK e => exact .dK (s _ _ e)
    | dT e => exact .dT (s _ _ e)
    | ins e a b c d f => exact .ins (s _ _ e) a b c d f
  | byt b => exact .byt b
  | set e => exact .set (s _ _ e)
  | kList e c => exact .kList e c
  | kTuple e c => exact .kTuple e c
  | kDict e c => exact .kDict e c
  | fTuple e => exact .fTuple (s _ _ e)
  | fDict e => exact .fDict (s _ _ e)
theorem Ask.same {K : PySem.W.Frag} {H H' : Hp} {v : V} (s : Same H H') (h : Ask K H v) : Ask K H' v := by
  obtain ⟨t, a, b⟩ := h.ex
  exact ⟨t, ty_same s a, b⟩
theorem Ask.int {K : PySem.W.Frag} {H : Hp} (i : Int) : Ask K H (.int i) := ⟨_, .base (.int i), kit_ty (r := true) (by decide +kernel), kit_ty (r := false) (by decide +kernel), kit_ty (r := false) (by decide +kernel)⟩
theorem Ask.str {K : PySem.W.Frag} {H : Hp} (x : Str) : Ask K H (.str x) := ⟨_, .base (.str x), kit_ty (r := false) (by decide +kernel), kit_ty (r := false) (by decide +kernel), kit_ty (r := true) (by decide +kernel)⟩
theorem Ask.bl {K : PySem.W.Frag} {H : Hp} (x : Bool) : Ask K H (.bl x) := ⟨_, .base (.bl x), kit_ty (r := true) (by decide +kernel), kit_ty (r := true) (by decide +kernel), kit_ty (r := false) (by decide +kernel)⟩
theorem Ask.non {K : PySem.W.Frag} {H : Hp} : Ask K H .non := ⟨_, .base .non, kit_ty (r := false) (by decide +kernel), kit_ty (r := false) (by decide +kernel), kit_ty (r := false) (by decide +kernel)⟩
theorem Ask.lst {K : PySem.W.Frag} {H : Hp} {a : Addr} {xs : List V} (h : H a = some (.lst xs)) : Ask K H (.ref a) := ⟨_, .base (.lst h), kit_ty (r := false) (by decide +kernel), kit_ty (r := false) (by decide +kernel), kit_ty (r := false) (by decide +kernel)⟩
theorem Ask.tup {K : PySem.W.Frag} {H : Hp} {a : Addr} {xs : List V} (h : H a = some (.tup xs)) : Ask K H (.ref a) := ⟨_, .base (.tup h), kit_ty (r := false) (by decide +kernel), kit_ty (r := false) (by decide +kernel), kit_ty (r := false) (by decide +kernel)⟩
theorem Ask.dct {K : PySem.W.Frag} {H : Hp} {a : Addr} {xs : List (Key × V)} (h : H a = some (.dK xs)) : Ask K H (.ref a) := ⟨_, .base (.dK h), kit_ty (r := false) (by decide +kernel), kit_ty (r := false) (by decide +kernel), kit_ty (r := false) (by decide +kernel)⟩
/-- an instance's class, as isinstance asks it -/
def insB (K : PySem.W.Frag) (C : Addr) : Bool :=
  decide (PySem.W.findIn K (.ref C) "__class__" = some (some (.builtin "object.__class__"))) && (decide (PySem.W.specialIn K (.builtin "object.__class__") "__get__" = some (some (.builtin "getset_descriptor.__get__"))) &&
    (decide (PySem.W.takesIn K (.builtin "object.__class__") = some true) && (decide (PySem.W.mroIn K C (.type "object") = some true) &&
      (decide (PySem.W.kitOne K (.ref C) (.type "int") = some false) && (decide (PySem.W.kitOne K (.ref C) (.type "bool") = some false) && decide (PySem.W.kitOne K (.ref C) (.type "str") = some false))))))
theorem Ask.ins {K : PySem.W.Frag} {H : Hp} {a C dx : Addr} {fs : List (Str × V)} (cl : Cls K C) (c : insB K C = true) (h : H a = some (.ins C dx fs)) : Ask K H (.ref a) := by
  unfold insB at c
  simp only [Bool.and_eq_true, decide_eq_true_eq] at c
  obtain ⟨c1, c2, c3, c4, c5, c6, c7⟩ := c
  exact ⟨_, .base (.ins h cl c1 c2 c3 c4), c5, c6, c7⟩
/-! ### comprehensions whose element leaves what is known as it is -/
theorem lc_map {J : It} {n : Nat} {Gd : Hp → Prop} {Y : Nat → Hp → V → Hp → Prop} (wk : Walk J n Gd Y) (it f : Nat → V) (hY : ∀ i H x H', i < n → Y i H x H' → H' = H ∧ x = it i) {te : TE} {j : Nat} {vs : List Nat} {σ : L2.St} {H : Hp} {D : Addr} {Qd : Hp → Prop}
    (hn : n ≤ 100000) (hD : H D = none) (hG : ∀ H', Same H H' → Gd H') (hw : ∀ x, wipe ((wipe σ vs).set j (some x)) vs = wipe σ vs)
    (he : ∀ i H1, i < n → Same H H1 → ∀ Q : VK, (∀ H2, Same H1 H2 → Q (f i) H2) → te ((wipe σ vs).set j (some (it i))) H1 Q) (hd : ∀ H', Same H H' → H' D = some (.lst ((List.range n).map f)) → Qd H') :
    ∃ W : Nat → Nat → Hp → Prop, (∃ m, W 0 m (upd H D (.lst []))) ∧ ∀ i m H, W i m H →
      (J.stop i H ∧ Qd H) ∨ (J.go i H ∧ ∃ Nx : Hp → Prop, (∀ H', Nx H' → ∃ m', m' < m ∧ W (i + 1) m' H') ∧ ∀ x H', J.yld i H x H' → gName j x (wipe σ vs) H' fun σ2 H2 => wipe σ2 vs = wipe σ vs ∧ tYes σ2 H2 fun b H3 =>
        if b = true then te σ2 H3 fun y H4 => ∃ acc, H4 D = some (.lst acc) ∧ acc.length < sizeLine ∧ Nx (upd H4 D (.lst (acc ++ [y]))) else Nx H3) := by
  refine lc_it (tt := tYes) wk (fun i H' => Same H H' ∧ H' D = some (.lst ((List.range i).map f))) ⟨Same.new hD, upd_same⟩ (fun i H' _ p => hG H' p.1) ?_ (fun H' p => hd H' p.1 p.2)
  intro i x H1 H2 hi p y
  obtain ⟨rfl, rfl⟩ := hY i H1 x H2 hi y
  refine ⟨hw _, ?_⟩
  unfold tYes
  refine iteT (he i H2 hi p.1 _ fun H3 s3 => ?_)
  refine ⟨_, s3 _ _ p.2, ?_, Same.chg (Same.tr p.1 s3) hD, ?_⟩
  · rw [List.length_map, List.length_range]
    exact Nat.lt_of_lt_of_le (Nat.lt_of_lt_of_le hi hn) (by decide)
  · rw [upd_same, List.range_succ, List.map_append] <;> rfl
theorem range_getD {α : Type} (a : Array α) (d : α) : (List.range a.size).map (fun i => a.getD i d) = a.toList := by
  refine List.ext_getElem (by simp) fun i h1 h2 => ?_
  have h3 : i < a.size := by simpa using h2
  simp [Array.getD_eq_getD_getElem?, h3]
theorem range_all {α : Type} (a : Array α) (d : α) (f : α → Bool) : ((List.range a.size).map fun i => f (a.getD i d)).all id = a.toList.all f := by
  rw [← range_getD a d, List.all_map, List.all_map] <;> rfl
/-! ### texts sign by sign, items at a drawn place -/
def one (c : Nat) : Str := ⟨#[c]⟩
theorem joinL_nil : ∀ xs : List (List Nat), TL.joinL [] xs = xs.flatten
  | [] => rfl
  | [x] => by simp [TL.joinL]
  | x :: y :: r => by
    have ih := joinL_nil (y :: r)
    simp only [TL.joinL, List.flatten_cons] at ih ⊢
    rw [ih] <;> simp
theorem join_ones (cs : List Nat) : Txt.join ("" : Str) (cs.map one) = ⟨cs.toArray⟩ := by
  rw [TL.join_eq]
  refine TL.ext_tl ?_
  rw [TL.tl_join, show TL.tl ("" : Str) = [] from rfl, joinL_nil, List.map_map]
  have e : List.map (TL.tl ∘ one) cs = cs.map fun c => [c] := rfl
  rw [e]
  show (cs.map fun c => [c]).flatten = cs
  induction cs with
  | nil => rfl
  | cons c r ih => rw [List.map_cons, List.flatten_cons, ih rfl] <;> rfl
theorem ones_len (cs : List Nat) : ((cs.map one).map (·.length)).sum = cs.length := by
  induction cs with
  | nil => rfl
  | cons c r ih => rw [List.map_cons, List.map_cons, List.sum_cons, ih, List.length_cons, show (one c).length = 1 from rfl] <;> omega
theorem atI_mem {α : Type} {xs : List α} {i : Int} (h0 : 0 ≤ i) (h1 : i < xs.length) : ∃ v, v ∈ xs ∧ atI xs i = some v := by
  obtain ⟨j, rfl⟩ := Int.eq_ofNat_of_zero_le h0
  have h2 : j < xs.length := by omega
  exact ⟨xs[j], List.getElem_mem h2, atI_nat (List.getElem?_eq_getElem h2)⟩
theorem str_empty {z : Str} (h : z.length = 0) : z = "" := by
  obtain ⟨a⟩ := z
  have e : a = #[] := Array.eq_empty_of_size_eq_zero h
  rw [e] <;> rfl
theorem str_app (a b : Str) : (a ++ b).length = a.length + b.length := by
  show (a.cps ++ b.cps).size = a.cps.size + b.cps.size
  exact Array.size_append
/-- a new instance, made: what stood before stands -/
theorem made_same {H H' : Hp} {x dx C : Addr} (nx : H x = none) (nd : H dx = none) (k : ∀ a o, (upd (upd H dx (.own x)) x (.ins C dx [])) a = some o → a ≠ x → H' a = some o) : Same H H' := fun a o e => by
  have n1 : a ≠ x := ne_of_none e nx
  have n2 : a ≠ dx := ne_of_none e nd
  exact k a o (by rw [upd_ne n1, upd_ne n2]; exact e) n1
/-! ### comprehensions with a test -/
theorem lc_filt {J : It} {n : Nat} {Gd : Hp → Prop} {Y : Nat → Hp → V → Hp → Prop} (wk : Walk J n Gd Y) (it f : Nat → V) (b : Nat → Bool) (hY : ∀ i H x H', i < n → Y i H x H' → H' = H ∧ x = it i) {tt : TT} {te : TE} {j : Nat} {vs : List Nat} {σ : L2.St} {H : Hp} {D : Addr} {Qd : Hp → Prop}
    (hn : n ≤ 100000) (hD : H D = none) (hG : ∀ H', Same H H' → Gd H') (hw : ∀ x, wipe ((wipe σ vs).set j (some x)) vs = wipe σ vs)
    (ht : ∀ i H1, i < n → Same H H1 → ∀ Q : Bool → Hp → Prop, (∀ H2, Same H1 H2 → Q (b i) H2) → tt ((wipe σ vs).set j (some (it i))) H1 Q)
    (he : ∀ i H1, i < n → b i = true → Same H H1 → ∀ Q : VK, (∀ H2, Same H1 H2 → Q (f i) H2) → te ((wipe σ vs).set j (some (it i))) H1 Q) (hd : ∀ H', Same H H' → H' D = some (.lst (((List.range n).filter b).map f)) → Qd H') :
    ∃ W : Nat → Nat → Hp → Prop, (∃ m, W 0 m (upd H D (.lst []))) ∧ ∀ i m H, W i m H →
      (J.stop i H ∧ Qd H) ∨ (J.go i H ∧ ∃ Nx : Hp → Prop, (∀ H', Nx H' → ∃ m', m' < m ∧ W (i + 1) m' H') ∧ ∀ x H', J.yld i H x H' → gName j x (wipe σ vs) H' fun σ2 H2 => wipe σ2 vs = wipe σ vs ∧ tt σ2 H2 fun b H3 =>
        if b = true then te σ2 H3 fun y H4 => ∃ acc, H4 D = some (.lst acc) ∧ acc.length < sizeLine ∧ Nx (upd H4 D (.lst (acc ++ [y]))) else Nx H3) := by
  refine lc_it (tt := tt) wk (fun i H' => Same H H' ∧ H' D = some (.lst (((List.range i).filter b).map f))) ⟨Same.new hD, upd_same⟩ (fun i H' _ p => hG H' p.1) ?_ (fun H' p => hd H' p.1 p.2)
  intro i x H1 H2 hi p y
  obtain ⟨rfl, rfl⟩ := hY i H1 x H2 hi y
  refine ⟨hw _, ht i H2 hi p.1 _ fun H3 s3 => ?_⟩
  have e1 : (List.range (i + 1)).filter b = (List.range i).filter b ++ [i].filter b := by rw [List.range_succ, List.filter_append]
  cases hb : b i with
  | false =>
    refine iteF ⟨Same.tr p.1 s3, ?_⟩
    rw [e1, List.filter_cons_of_neg (by rw [hb]; decide), List.filter_nil, List.append_nil]
    exact s3 _ _ p.2
  | true =>
    refine iteT (he i H3 hi hb (Same.tr p.1 s3) _ fun H4 s4 => ?_)
    refine ⟨_, s4 _ _ (s3 _ _ p.2), ?_, Same.chg (Same.tr (Same.tr p.1 s3) s4) hD, ?_⟩
    · rw [List.length_map]
      have l1 := List.length_filter_le b (List.range i)
      rw [List.length_range] at l1
      exact Nat.lt_of_le_of_lt l1 (Nat.lt_of_lt_of_le (Nat.lt_of_lt_of_le hi hn) (by decide))
    · rw [upd_same, e1, List.filter_cons_of_pos hb, List.filter_nil, List.map_append] <;> rfl
theorem ty_ins {K : PySem.W.Frag} {H : Hp} {a C dx : Addr} {fs : List (Str × V)} (cl : Cls K C) (c : insB K C = true) (h : H a = some (.ins C dx fs)) : TyX K H (.ref a) (.ref C) := by
  unfold insB at c
  simp only [Bool.and_eq_true, decide_eq_true_eq] at c
  obtain ⟨c1, c2, c3, c4, c5, c6, c7⟩ := c
  exact .base (.ins h cl c1 c2 c3 c4)
theorem kit_self (K : PySem.W.Frag) (t : Value) : PySem.W.kitOne K t t = some true := by
  unfold PySem.W.kitOne
  rw [if_pos (by simp)]
end G

namespace G
open PySem PySem.W PySem.Calls PyProof.Rows
/-! ### own exceptions: class X(M) over a built-in B, __init__ says super().__init__(text) and stores its arguments -/
structure PF (P : Program) : Prop where
  file : ((P.main.file : Str) == ("/claim/cut.py" : Str)) = true
  top : (P.main.scope.names.lookup ("super" : Str)).isSome = false
structure Kd (B newId initId : String) (bmB : List Value) : Prop where
  fb : ExcBaseFacts B newId initId bmB
  sf : StoreFacts B bmB "object.__setattr__" "object"
  kf : KxsFacts B initId
theorem kd_VE : Kd "ValueError" "ValueError.__new__" "ValueError.__init__" [.type "ValueError", .type "Exception", .type "BaseException", .type "object"] := ⟨F.excBase_ValueError, F.store_ValueError, kxs_ValueError⟩
theorem kd_LE : Kd "LookupError" "LookupError.__new__" "LookupError.__init__" [.type "LookupError", .type "Exception", .type "BaseException", .type "object"] := ⟨F.excBase_LookupError, F.store_LookupError, kxs_LookupError⟩
/-- what the written part says of the class at C and its __init__ at fI -/
structure Xc (K : Frag) (C fI : Addr) (B newId initId : String) (bmB : List Value) (qual : Str) (params : Arguments) (body : List Stmt) (scope : Scope) : Prop where
  ini : excInitIn K C bmB newId = true
  ovr : excOver K C bmB = true
  hd : ∃ cd, clsIn K C = some cd ∧ cd.hasDict = true
  sa : findIn K (.ref C) "__setattr__" = some (some (.builtin "object.__setattr__"))
  iC : findIn K (.ref C) "__init__" = some (some (.ref fI))
  su : ks_superIn K C C "__init__" = some (some (.builtin initId))
  sB : subIn K (.ref C) (.type B) = some true
  sC : mroIn K C (.ref C) = some true
  opq : nsIn K cStatics "thirdparty.any" = some none
  mgs : nsIn K mainGlobals "super" = some none
  fn : ∃ (od : Option Addr) (kV doc pm : Value) (an : Option Addr) (cda : Addr) (ct : Value) (cc : Addr) (osl : Array (Option Value)) (ccl : Value) (cdd : Option Addr) (vs : Array Value) (ccs : Array (Option Value)) (tf : Tok) (cl : Value) (cld : Option Addr) (csl : Array (Option Value)),
    K.lookup fI = some ⟨.type "function", od, .func (ksFn "__init__" qual params body scope .none kV doc pm an (.ref cda) ct cc), osl⟩ ∧ codeIn K (.ref cda) qual = true ∧
    K.lookup cda = some ⟨ccl, cdd, .fields vs, ccs⟩ ∧ vs[2]? = some (.str "/claim/cut.py" tf) ∧ K.lookup cc = some ⟨cl, cld, .cell (some (.ref C)), csl⟩
section
variable {prog : Program} {w : World} {A : Around} {E : Value → Shared → Prop} {K : Frag} {C fI : Addr} {B newId initId : String} {bmB : List Value} {qual : Str} {params : Arguments} {body : List Stmt} {scope : Scope}
abbrev exA (C t : Addr) (dd : Option Addr) : Obj := excObj C t dd .none
theorem kIn_but {h h' : Heap} {x : Addr} (X : K.In h) (hx : K.lookup x = none) (k : ∀ b o, b ≠ x → h.get? b = some o → h'.get? b = some o) : K.In h' := fun a o e =>
  k a o (fun z => by rw [z, hx] at e; cases e) (X a o e)
theorem clsAt {h : Heap} {D : Addr} {cdD : ClassData} (X : K.In h) (hD : clsIn K D = some cdD) : ∃ oD, h.get? D = some oD ∧ oD.data = .cls cdD := by
  unfold clsIn at hD
  split at hD
  · rename_i ho
    cases hD
    exact ⟨_, X _ _ ho, rfl⟩
  · cases hD
/-- super().__init__(e): the wrapper called -/
theorem mw_call (kd : Kd B newId initId bmB) (T : Xc K C fI B newId initId bmB qual params body scope) {s : Shared} {u x t0 : Addr} {dd : Option Addr} {rest : List Value} {Q : Value → Shared → Prop} (X : K.In s.heap)
    (hu : s.heap.get? u = some (kxs_mw initId x)) (hx : s.heap.get? x = some (exA C t0 dd)) (hz : rest.length ≤ sizeLine)
    (hq : ∀ h' t1, (∀ b o, b ≠ x → s.heap.get? b = some o → h'.get? b = some o) → h'.get? x = some (exA C t1 dd) → Q .none { s with heap := h' }) :
    wpAny (model prog w) A (call (.ref u) rest) Q E s := by
  obtain ⟨nm, N', qn, bs, bm, hdct, sn, sub, ab, col, d0, k0, k1, k2, k3, k5, hC, hT⟩ := excInit_of X T.ini
  obtain ⟨hh, g, d, tk, os⟩ := s
  refine wpAny_call (codeAny_of_tree ?_)
  show wpAny _ A.in1 (callAny (.ref u) ⟨rest, []⟩) _ _ _
  simp only [callAny]
  refine wpAny_bind (wpAny_load hu ?_)
  simp only [kxs_mw, show (Value.type "method-wrapper" == Value.type "method" || Value.type "method-wrapper" == Value.type "builtin_function_or_method" || Value.type "method-wrapper" == Value.type "method-wrapper") = true by decide, if_true]
  refine KFB.if_so (by decide) ?_
  refine wpAny_bind (check_bound_init kd.fb.toExcCallFacts hC hx rfl ?_)
  refine wpAny_bind (wpAny_pure (wpAny_pure ?_))
  refine ⟨plainId_quiet kd.fb.init.plain _, codeAny_builtin kd.fb.initEntry ?_⟩
  exact exc_init_tree (cls := .ref C) (t0 := t0) (dv := dd) (c2 := .none) (c3 := .none) (b4 := .bool false) hx hz fun h' k e _ => hq h' _ k e
/-- super().__init__(text) as a statement of __init__ -/
theorem x_super (kd : Kd B newId initId bmB) (T : Xc K C fI B newId initId bmB qual params body scope) (pf : PF prog) {s : Shared} {x t0 L cda cc : Addr} {dd : Option Addr} {mg mb m : Str → Option Value} {bd : List Stmt} {p0 p1 p2 p3 p4 p5 : Pos} {j : Nat} {txt : Str} {Q : Flow → Shared → Prop}
    {od : Option Addr} {fd : FuncData} {ar : Arg} {osl ccs csl : Array (Option Value)} {ccl cl : Value} {cdd cld : Option Addr} {vs : Array Value} {tf : Tok} (hf : K.lookup fI = some ⟨.type "function", od, .func fd, osl⟩) (hp : (fd.params.posonlyargs ++ fd.params.args).head? = some ar)
    (hcode : K.lookup cda = some ⟨ccl, cdd, .fields vs, ccs⟩) (hvs : vs[2]? = some (.str "/claim/cut.py" tf)) (hcell : K.lookup cc = some ⟨cl, cld, .cell (some (.ref C)), csl⟩)
    (X : K.In s.heap) (hg : s.heap.Ns mainGlobals mg) (hgs : mg "super" = none) (hb : s.heap.Ns builtinsNs mb) (hbs : mb "super" = some (.type "super")) (hx : s.heap.get? x = some (exA C t0 dd)) (nK : K.lookup x = none) (hm : s.heap.Ns L m) (hv : m ar.arg = some (.ref x))
    (hks : scope.names.lookup ("super" : Str) = some .globalImplicit) (hkc : scope.names.lookup ("__class__" : Str) = some .free) (hka : scope.names.lookup ar.arg = some .local) (hk : scope.kind = .function)
    {pl : Sem Bool} (he : eval (.Call (.Attribute (.Call (.Name "super" p0) [] [] p1) "__init__" p2) [.Constant (.str txt) j p3] [] p4) (ksEnv qual scope L fI (.ref cda) cc) = (do
      let ov ← attributeBase (.Call (.Name "super" p0) [] [] p1) "__init__" (ksEnv qual scope L fI (.ref cda) cc) (eval (.Call (.Name "super" p0) [] [] p1) (ksEnv qual scope L fI (.ref cda) cc))
      standAt p2.atName
      let (f, first) ← holding [ov] (getMethod ov "__init__" pl)
      callWith p4 f first (backTo p4 (starEach [.Constant (.str txt) j p3] (ksEnv qual scope L fI (.ref cda) cc))) []))
    (hsw : swapsWith (.Call (.Attribute (.Call (.Name "super" p0) [] [] p1) "__init__" p2) [.Constant (.str txt) j p3] [] p4) none p5.line (ksEnv qual scope L fI (.ref cda) cc) = pure false)
    (hq : ∀ h' t1 tk, (∀ b o, b ≠ x → s.heap.get? b = some o → h'.get? b = some o) → h'.get? x = some (exA C t1 dd) → Q .next { s with heap := h', toks := tk }) :
    _root_.PySem.wpAt (model prog w) A (.func bd (ksEnv qual scope L fI (.ref cda) cc)) (exec (.Expr (.Call (.Attribute (.Call (.Name "super" p0) [] [] p1) "__init__" p2) [.Constant (.str txt) j p3] [] p4) p5) (ksEnv qual scope L fI (.ref cda) cc)) Q E s := by
  obtain ⟨cd, hcd, _⟩ := T.hd
  obtain ⟨oD, hD1, hD2⟩ := clsAt X hcd
  obtain ⟨hh, g, d, t, os⟩ := s
  have hxC : x ≠ C := fun e => by
    rw [e, hD1] at hx
    injection hx with hx
    rw [hx] at hD2
    exact nomatch hD2
  refine ks_wpAt_Expr_any (ks_wpAt_MethodCall (name := "__init__") (pl := pl) (ks_wpAt_super_base (env := ksEnv qual scope L fI (.ref cda) cc) hks hkc (by decide) rfl (X _ _ hf) rfl hp rfl (X _ _ hcode) rfl hvs pf.file pf.top ?_) he) (by simp [interactive, hk]) hsw
  refine ks_loadName_global hk hks (loadGlobal_builtin (env := ksEnv qual scope L fI (.ref cda) cc) hg hgs hb hbs ⟨rfl, ?_⟩)
  refine wpAny_loadName_free hk hkc rfl ⟨_, X _ _ hcell, rfl⟩ ?_
  refine wpAny_loadName_local hk hka hm hv ?_
  refine ks_wpAny_isType_cls hD1 hD2 ⟨rfl, ?_⟩
  refine ks_wpAny_call_super hD1 hD2 hx rfl (fun c e => nomatch e) (looks_mroIn X T.sC) (fun h1 e1 k1 => ?_)
  have X1 : K.In h1 := X.keeps k1
  have hx1 := k1 _ _ hx
  have tyx : Looks (model prog w) h1 (typeOf (.ref x)) (.ref C) := fun A Q E s k q => wpAny_typeOf_ref (k _ _ hx1) q
  have su : alongIn K "__init__" ((cd.mro.dropWhile (· != .ref C)).drop 1) = some (some (.builtin initId)) := by
    have := T.su
    unfold ks_superIn at this
    rw [hcd] at this
    exact this
  refine kxs_getMethod kd.kf e1 (looks_opaque X1 T.opq) (l₀ := cd.mro) ?_ rfl X1 su ?_ hxC (by decide) ?_
  · exact fun A Q E s k q => wpAny_bind ((looks_clsIn X1 hcd) A _ E s k (wpAny_pure q))
  · exact tyx.andThen (looks_subIn X1 T.sB)
  have k2 : ∀ b o, h1.get? b = some o → (h1.push (kxs_mw initId x)).get? b = some o := fun b o e => Heap.get?_push_of_some _ e
  refine kxs_callWith (i := initId) (x := x) rfl (evalArgs_plain (Calls.spliced_cons (Calls.Constant_str (pos := p3) (k := j) (Calls.spliced_nil ⟨Heap.get?_push_at rfl rfl, ?_⟩))))
  refine mw_call kd T (X1.keeps k2) (Heap.get?_push_at rfl rfl) (k2 _ _ hx1) (show 1 ≤ sizeLine by decide) fun h' t1 k3 e3 => ?_
  exact hq h' t1 _ (fun b o nb e => k3 b o nb (k2 b o (k1 b o e))) e3
open Builtin Builtin.ObjectAttr in
/-- self.f = v: the first attribute makes the dict -/
theorem x_new (kd : Kd B newId initId bmB) (T : Xc K C fI B newId initId bmB qual params body scope) {R : Result → Shared → Prop} {hp : Heap} {g : Array GenState} {d : Drawn} {t : Nat} {os : OsState} {name : Str} {tk : Tok} {v : Value} {x t0 : Addr} (X : K.In hp)
    (hx : hp.get? x = some (exA C t0 none)) (ha : findIn K (.ref C) name = some none)
    (hq : ∀ h' tk' dx, (∀ b o, b ≠ x → hp.get? b = some o → h'.get? b = some o) → hp.objs.size ≤ dx → dx ≠ x → h'.get? x = some (exA C t0 (some dx)) → h'.Ns1 dx (fun y => if y = name then some v else none) → R (.ok (.ret .none)) ⟨h', g, d, tk', os⟩) :
    codeAny (model prog w) A (.call (.builtin "object.__setattr__") ⟨[.ref x, .str name tk, v], []⟩) R ⟨hp, g, d, t, os⟩ := by
  have I : InstAt hp x (exA C t0 none) C none := ⟨hx, rfl, rfl, trivial⟩
  have hxs : x ≠ hp.objs.size := Nat.ne_of_lt (Heap.lt_size hx)
  obtain ⟨cd, hcd, hh⟩ := T.hd
  have tk0 : takerIn K C name = some none := by
    unfold takerIn
    rw [ha] <;> rfl
  refine osa_openX kd.sf X I T.ovr tk0 fun b => ?_
  have hcls : Looks (model prog w) hp (classData C) cd := looks_clsIn X hcd
  obtain ⟨nm, bs, mro, ns, qn, hd, sn, sb, ab, col, del⟩ := cd
  dsimp only at hh
  subst hh
  show wpAny _ _ (storeInOwnDict (.ref x) (.ref C) (.str name tk) name v b) _ _ _
  unfold storeInOwnDict ownDictForStores
  repeat (first | with_reducible refine HandSPX.store_in_new ?_ ?_ | with_reducible refine wpAny_loadPart_at hx ?_ | with_reducible refine hcls.at ?_ | wp_step)
  · exact ⟨_, #[], _, (Heap.get?_update_ne _ _ _ _ hxs.symm).trans (Heap.get?_push_at rfl rfl), rfl, fun e he => absurd he (by simp), fun _ => rfl⟩
  · intro h' tk' hn' hs
    have hx1 : (hp.push { cls := .type "dict", data := .dict #[] }).get? x = some (exA C t0 none) := Heap.get?_push_of_some _ hx
    refine hq h' tk' hp.objs.size (fun b o hb ho => ?_) (Nat.le_refl _) hxs.symm ?_ hn'
    · exact (hs.2 b (Nat.ne_of_lt (Heap.lt_size ho))).trans ((Heap.get?_update_ne _ _ _ _ hb).trans (Heap.get?_push_of_some _ ho))
    · exact (hs.2 x hxs).trans (Heap.get?_update_self _ hx1 rfl)
open Builtin Builtin.ObjectAttr in
/-- .. and the next goes into it -/
theorem x_old (kd : Kd B newId initId bmB) (T : Xc K C fI B newId initId bmB qual params body scope) {R : Result → Shared → Prop} {hp : Heap} {g : Array GenState} {d : Drawn} {t : Nat} {os : OsState} {name : Str} {tk : Tok} {v : Value} {x t0 dx : Addr} {m0 : Str → Option Value} {nl : List Str} (X : K.In hp)
    (hx : hp.get? x = some (exA C t0 (some dx))) (hns : hp.Ns1 dx m0) (hw : Within m0 nl) (hz : nl.length ≤ 1000) (ha : findIn K (.ref C) name = some none)
    (hq : ∀ h' tk', (∀ b o, b ≠ dx → hp.get? b = some o → h'.get? b = some o) → h'.Ns1 dx (fun y => if y = name then some v else m0 y) → R (.ok (.ret .none)) ⟨h', g, d, tk', os⟩) :
    codeAny (model prog w) A (.call (.builtin "object.__setattr__") ⟨[.ref x, .str name tk, v], []⟩) R ⟨hp, g, d, t, os⟩ := by
  obtain ⟨oD, esD, epD, hoD, hdD, _⟩ := hns.count hw
  have I : InstAt hp x (exA C t0 (some dx)) C (some oD) := ⟨hx, rfl, rfl, hoD⟩
  obtain ⟨cd, hcd, hh⟩ := T.hd
  have tk0 : takerIn K C name = some none := by
    unfold takerIn
    rw [ha] <;> rfl
  refine osa_openX kd.sf X I T.ovr tk0 fun b => ?_
  have hcls : Looks (model prog w) hp (classData C) cd := looks_clsIn X hcd
  obtain ⟨nm, bs, mro, ns, qn, hd, sn, sb, ab, col, del⟩ := cd
  dsimp only at hh
  subst hh
  show wpAny _ _ (storeInOwnDict (.ref x) (.ref C) (.str name tk) name v b) _ _ _
  unfold storeInOwnDict ownDictForStores
  repeat (first | with_reducible refine ESX.store_in_old hns hw hz ?_ | with_reducible refine wpAny_loadPart_at hx ?_ | with_reducible refine hcls.at ?_ | wp_step)
  intro h' tk' hn' hs
  exact hq h' tk' (fun b o hb ho => (hs.2 b hb).trans ho) hn'
/-- what __init__ leaves of a new exception at x: its dict at dx holds ps -/
structure Left (h h' : Heap) (x C dx : Addr) (mA : Str → Option Value) : Prop where
  keep : ∀ b o, b ≠ x → h.get? b = some o → h'.get? b = some o
  obj : ∃ t1, h'.get? x = some (exA C t1 (some dx))
  big : h.objs.size ≤ dx
  ne : dx ≠ x
  ns : h'.Ns1 dx mA
end
/-- the text of an __init__ with one field -/
structure Ini1 (fI : Addr) (qual : Str) (params : Arguments) (body : List Stmt) (scope : Scope) (fld : Str) : Prop where
  ex : ∃ (p0 p1 p2 p3 p4 p5 q1 q2 q3 q4 : Pos) (j : Nat) (txt : Str) (pl : Sem Bool),
    body = [.Expr (.Call (.Attribute (.Call (.Name "super" p0) [] [] p1) "__init__" p2) [.Constant (.str txt) j p3] [] p4) p5, .Assign [.Attribute (.Name "self" q1) fld q2] (.Name fld q3) q4] ∧
    (∀ L cda cc, eval (.Call (.Attribute (.Call (.Name "super" p0) [] [] p1) "__init__" p2) [.Constant (.str txt) j p3] [] p4) (ksEnv qual scope L fI (.ref cda) cc) = (do
      let ov ← attributeBase (.Call (.Name "super" p0) [] [] p1) "__init__" (ksEnv qual scope L fI (.ref cda) cc) (eval (.Call (.Name "super" p0) [] [] p1) (ksEnv qual scope L fI (.ref cda) cc))
      standAt p2.atName
      let (f, first) ← holding [ov] (getMethod ov "__init__" pl)
      callWith p4 f first (backTo p4 (starEach [.Constant (.str txt) j p3] (ksEnv qual scope L fI (.ref cda) cc))) [])) ∧
    (∀ L cda cc, swapsWith (.Call (.Attribute (.Call (.Name "super" p0) [] [] p1) "__init__" p2) [.Constant (.str txt) j p3] [] p4) none p5.line (ksEnv qual scope L fI (.ref cda) cc) = pure false) ∧
    (∀ L cda cc, swapsWith (.Name fld q3) (some (.Attribute (.Name "self" q1) fld q2)) q4.line (ksEnv qual scope L fI (.ref cda) cc) = pure false)
  bind : ∀ (kV doc pm : Value) (an : Option Addr) (cda : Addr) (ct : Value) (cc : Addr) (u v : Value), bindArgs (ksFn "__init__" qual params body scope .none kV doc pm an (.ref cda) ct cc) ⟨[u, v], []⟩ = pure ([("self", u), (fld, v)] : List (Str × Value))
  par : ∃ ar : Arg, (params.posonlyargs ++ params.args).head? = some ar ∧ ar.arg = "self"
  cell : ∀ y ∈ scope.names, y.2 ≠ .cell
  self : scope.names.lookup ("self" : Str) = some .local
  fl : scope.names.lookup fld = some .local
  sup : scope.names.lookup ("super" : Str) = some .globalImplicit
  cls : scope.names.lookup ("__class__" : Str) = some .free
  kind : scope.kind = .function
  co : scope.isCoroutine = false
  gen : scope.isGenerator = false
  nef : fld ≠ "self"
  dbg : (fld == ("__debug__" : Str)) = false
section
variable {prog : Program} {w : World} {A : Around} {K : Frag} {C fI : Addr} {B newId initId : String} {bmB : List Value} {qual : Str} {params : Arguments} {body : List Stmt} {scope : Scope} {fld : Str} {mg mb : Str → Option Value}
theorem x_init1 (kd : Kd B newId initId bmB) (T : Xc K C fI B newId initId bmB qual params body scope) (Y : Ini1 fI qual params body scope fld) (pf : PF prog) (nof : findIn K (.ref C) fld = some none) {s : Shared} {x t0 : Addr} {v : Value} {R : Result → Shared → Prop}
    (X : K.In s.heap) (lim : s.heap.NoLimit) (hg : s.heap.Ns mainGlobals mg) (hgs : mg "super" = none) (hb : s.heap.Ns builtinsNs mb) (hbs : mb "super" = some (.type "super")) (hx : s.heap.get? x = some (exA C t0 none)) (nK : K.lookup x = none) (room : A.depth < recursionLimit)
    (hq : ∀ h' tk dx, Left s.heap h' x C dx (fun y => if y = fld then some v else none) → R (.ok (.ret .none)) { s with heap := h', toks := tk }) :
    codeAny (model prog w) A (.call (.ref fI) ⟨[.ref x, v], []⟩) R s := by
  obtain ⟨od, kV, doc, pm, an, cda, ct, cc, osl, ccl, cdd, vs, ccs, tf, cl, cld, csl, hf, hcd, hcode, hvs, hcell⟩ := T.fn
  obtain ⟨p0, p1, p2, p3, p4, p5, q1, q2, q3, q4, j, txt, pl, eb, he, hsw, hsw2⟩ := Y.ex
  obtain ⟨ar, hp, har⟩ := Y.par
  refine ks_codeAny_call_defAt (binds := [("self", .ref x), (fld, v)]) room (X _ _ hf) rfl lim (codeRec_of X hcd) rfl (BindsTo.of_eq (Y.bind kV doc pm an cda ct cc (.ref x) v)) Y.cell ?_ (fun h₀ hns k₀ => ?_) Y.co Y.gen Y.kind
  · intro y hy
    simp only [List.mem_cons, List.not_mem_nil, or_false] at hy
    rcases hy with rfl | rfl
    · exact Y.self
    · exact Y.fl
  have xL : s.heap.objs.size ≠ x := Nat.ne_of_gt (Heap.lt_size hx)
  have vself : ([("self", Value.ref x), (fld, v)] : List (Str × Value)).reverse.lookup ("self" : Str) = some (Value.ref x) := by
    have e : (("self" : Str) == fld) = false := by
      rw [beq_eq_false_iff_ne]
      exact fun z => Y.nef z.symm
    simp [List.lookup, e]
  have vfld : ([("self", Value.ref x), (fld, v)] : List (Str × Value)).reverse.lookup fld = some v := by simp [List.lookup]
  have X0 : K.In h₀ := X.keeps k₀
  show _root_.PySem.wpAt (model prog w) (A.deeper (ksEnv qual scope s.heap.objs.size fI (.ref cda) cc)) (.func body (ksEnv qual scope s.heap.objs.size fI (.ref cda) cc)) (execs body (ksEnv qual scope s.heap.objs.size fI (.ref cda) cc)) _ _ _
  rw [show execs body (ksEnv qual scope s.heap.objs.size fI (.ref cda) cc) = execs [.Expr (.Call (.Attribute (.Call (.Name "super" p0) [] [] p1) "__init__" p2) [.Constant (.str txt) j p3] [] p4) p5, .Assign [.Attribute (.Name "self" q1) fld q2] (.Name fld q3) q4] (ksEnv qual scope s.heap.objs.size fI (.ref cda) cc) by rw [eb]]
  refine ks_wpAt_execs_cons (x_super kd T pf (ar := ar) hf hp hcode hvs hcell X0 (hg.keeps k₀) hgs (hb.keeps k₀) hbs (k₀ _ _ hx) nK hns (by rw [har]; exact vself) Y.sup Y.cls (by rw [har]; exact Y.self) Y.kind (he _ _ _) (hsw _ _ _) fun h1 t1 tk1 k1 e1 => ?_)
  have hns1 : h1.Ns s.heap.objs.size (fun y => ([("self", Value.ref x), (fld, v)] : List (Str × Value)).reverse.lookup y) := by
    obtain ⟨o, es, ep, z1, z2⟩ := hns
    exact ⟨o, es, ep, k1 _ _ xL z1, z2⟩
  have X1 : K.In h1 := kIn_but X0 nK k1
  refine _root_.PySem.wpAt_of_wpAny (wpAny_execs_cons (plainObj_wpAny_Assign_Attribute ?_ (hsw2 _ _ _)))
  refine wpAny_Name (wpAny_loadName_local Y.kind Y.fl hns1 vfld ?_) Y.dbg
  refine wpAny_Name (wpAny_loadName_local Y.kind Y.self hns1 vself ?_) (by decide)
  refine set_plain X1 (ox := exA C t1 none) (od := none) ⟨e1, rfl, rfl, trivial⟩ T.sa ?_
  refine x_new kd T X1 e1 nof fun h2 tk2 dx k2 dn dne e2 hn2 => ?_
  have z : s.heap.objs.size < h1.objs.size := hns1.lt
  exact wpAny_execs_nil (hq h2 tk2 dx ⟨fun b o hb e => k2 b o hb (k1 b o hb (k₀ b o e)), ⟨_, e2⟩, Nat.le_of_lt (Nat.lt_of_lt_of_le z dn), dne, hn2⟩)
/-- a made exception at e, its dict at d -/
structure Made (h h' : Heap) (e C d : Addr) (mA : Str → Option Value) : Prop where
  keep : ∀ b o, h.get? b = some o → h'.get? b = some o
  new : h.objs.size ≤ e
  obj : ∃ oe vs, h'.get? e = some oe ∧ oe.cls = .ref C ∧ oe.dict = some d ∧ oe.data = .fields vs ∧ vs[1]? = some .none
  big : h.objs.size ≤ d
  ne : d ≠ e
  ns : h'.Ns1 d mA
theorem x_made1 (kd : Kd B newId initId bmB) (T : Xc K C fI B newId initId bmB qual params body scope) (Y : Ini1 fI qual params body scope fld) (pf : PF prog) (nof : findIn K (.ref C) fld = some none) {s : Shared} {v : Value} {R : Result → Shared → Prop}
    (X : K.In s.heap) (lim : s.heap.NoLimit) (hg : s.heap.Ns mainGlobals mg) (hgs : mg "super" = none) (hb : s.heap.Ns builtinsNs mb) (hbs : mb "super" = some (.type "super")) (room : A.depth + 1 < recursionLimit)
    (hq : ∀ h' tk e d, Made s.heap h' e C d (fun y => if y = fld then some v else none) → R (.ok (.ret (.ref e))) { s with heap := h', toks := tk }) :
    codeAny (model prog w) A (.call (.ref C) ⟨[v], []⟩) R s := by
  obtain ⟨nm, N, qn, bs, bm, hdct, sn, sub, ab, col, dd, k0, k1, k2, k3, k5, hC, hT⟩ := excInit_of X T.ini
  obtain ⟨od, kV, doc, pm, an, cda, ct, cc, osl, ccl, cdd, vs, ccs, tf, cl, cld, csl, hf, _⟩ := T.fn
  obtain ⟨hp, g, dr, tk, os⟩ := s
  have k : ∀ b o, hp.get? b = some o → ((hp.push (kdv_tup [v])).push (HandSPX.excO C hp.objs.size)).get? b = some o := fun b o e => Heap.get?_push_of_some _ (Heap.get?_push_of_some _ e)
  have hget : ((hp.push (kdv_tup [v])).push (HandSPX.excO C hp.objs.size)).get? (hp.objs.size + 1) = some (exA C hp.objs.size none) := by heap_get
  have nK : K.lookup (hp.objs.size + 1) = none := by
    cases e : K.lookup (hp.objs.size + 1) with
    | none => rfl
    | some o => exact absurd (Nat.lt_of_succ_lt (Heap.lt_size (show hp.get? (hp.objs.size + 1) = some o from X _ _ e))) (Nat.lt_irrefl _)
  refine HandSPX.call_own kd.fb hT hC (looks_findIn X T.iC) (fun self => exc_bind (X _ _ hf) rfl self) (show 1 ≤ sizeLine by decide) ?_
  refine x_init1 (s := ⟨(hp.push (kdv_tup [v])).push (HandSPX.excO C hp.objs.size), g, dr, tk, os⟩) kd T Y pf nof (X.keeps k) (lim.keeps k) (hg.keeps k) hgs (hb.keeps k) hbs hget nK room fun h' tk' dx M => ⟨rfl, hq h' tk' (hp.objs.size + 1) dx ?_⟩
  have z : hp.objs.size + 1 + 1 ≤ dx := by
    have q := M.big
    simpa only [Heap.size_push] using q
  obtain ⟨t1, ho⟩ := M.obj
  exact ⟨fun b o e => M.keep b o (Nat.ne_of_lt (Nat.lt_succ_of_lt (Heap.lt_size e))) (k b o e), Nat.le_succ _, ⟨_, _, ho, rfl, rfl, rfl, rfl⟩, by show hp.objs.size ≤ dx; omega, M.ne, M.ns⟩
end
end G

namespace G
open PySem PySem.Spec PyProof.Rows L2
/-! ### the head's Hook: facts, defs, one Bool, and the texts of the exceptions' __init__ -/
abbrev XnV : Type := Option (Str × Str × Arguments × FuncBody × Scope)
/-- a def that is found by a path of its own: an exception's __init__, a property's getter, a class method -/
structure XnD where
  at_ : PySem.W.Frag → Addr
  nm : Str
  ql : Str
  st : Stmt
def xnW (K : PySem.W.Frag) (d : XnD) : XnV := match K.lookup (d.at_ K) with
  | some ⟨_, _, .func fd, _⟩ => some (fd.name, fd.qualname, fd.params, fd.body, fd.scope)
  | _ => none
def XnD.val (d : XnD) : XnV := some (d.nm, d.ql, defArgs d.st, .stmts (defBody d.st), defScope d.st)
def frZ (g : Addr → Option Obj) (n : Nat) : PySem.W.Frag := He.frT g (He.asD g n ++ [cStatics])
abbrev AlZ : Type := (He.AlT × Bool) × List XnV
def obsZ (n : Nat) (fa : List He.Fa) (fn : List He.DefD) (ts : List He.Tab) (xs : List XnD) (ex : PySem.W.Frag → Bool) (g : Addr → Option Obj) : AlZ := ((He.obsT fa fn ts (frZ g n), ex (frZ g n)), xs.map (xnW (frZ g n)))
structure SaysZ (fa : List He.Fa) (fn : List He.DefD) (ts : List He.Tab) (xs : List XnD) (ex : PySem.W.Frag → Bool) (w : World) (K : PySem.W.Frag) : Prop where
  t : He.SaysT fa fn ts w K
  more : ex K = true
  xn : xs.map (xnW K) = xs.map XnD.val
def hookZ (n : Nat) (fa : List He.Fa) (fn : List He.DefD) (ts : List He.Tab) (xs : List XnD) (ex : PySem.W.Frag → Bool) : PySem.W.Hook where
  α := AlZ
  obs := fun s => obsZ n fa fn ts xs ex s.heap.get?
  val := fun w => ((He.valT fn ts w, true), xs.map XnD.val)
  says := fun w h => ∃ K : PySem.W.Frag, K.In h ∧ SaysZ fa fn ts xs ex w K
  of := fun _ _ e => ⟨_, He.frT_in, ⟨congrArg (fun z : AlZ => z.1.1) e, congrArg (fun z : AlZ => z.1.2) e, congrArg (fun z : AlZ => z.2) e⟩⟩
  keeps := fun _ _ _ ⟨K, hK, c⟩ k => ⟨K, PySem.W.Frag.In.keeps hK k, c⟩
theorem obsZ_eq {n : Nat} {fa : List He.Fa} {fn : List He.DefD} {ts : List He.Tab} {xs : List XnD} {ex : PySem.W.Frag → Bool} {g : Addr → Option Obj} {s : Shared} (h : ∀ a, g a = s.heap.get? a) : obsZ n fa fn ts xs ex g = (hookZ n fa fn ts xs ex).obs s := by
  have e : g = s.heap.get? := funext h
  rw [e] <;> rfl
theorem SaysZ.xnAt {fa : List He.Fa} {fn : List He.DefD} {ts : List He.Tab} {xs : List XnD} {ex : PySem.W.Frag → Bool} {w : World} {K : PySem.W.Frag} (c : SaysZ fa fn ts xs ex w K) (i : Nat) {d : XnD} (h : xs[i]? = some d) : xnW K d = d.val := by
  have e := congrArg (fun l : List XnV => l[i]?) c.xn
  simp only [List.getElem?_map, h, Option.map_some] at e
  exact Option.some.inj e
/-! ### a plain def found by a path -/
def funB (K : PySem.W.Frag) (a : Addr) (ql : Str) : Bool := PySem.W.keepIn K (.ref a) && (match K.lookup a with
  | some ⟨_, _, .func fd, _⟩ => PySem.W.codeIn K fd.code ql && (decide (fd.globals = mainGlobals) && (decide (fd.builtins = builtinsNs) && (decide (fd.closure = []) && (match fd.defaults with | .none => true | _ => false))))
  | _ => false)
theorem funD_of {K : PySem.W.Frag} {d : XnD} (o : xnW K d = d.val) (c : funB K (d.at_ K) d.ql = true) : ∃ fd, FunD K d.nm d.ql (defArgs d.st) (defBody d.st) (defScope d.st) [] [] (d.at_ K) fd := by
  unfold funB at c
  obtain ⟨c1, c2⟩ := Bool.and_eq_true_iff.mp c
  unfold xnW at o
  split at c2
  · rename_i oc od fd osl hl
    rw [hl] at o
    simp only [Bool.and_eq_true, decide_eq_true_eq] at c2
    obtain ⟨e0, e1, e2, e3, e4⟩ := c2
    obtain ⟨nm, ql, pr, bo, sc, gl, clo, dfl, kV, doc, pm, an, cd, ct, bl⟩ := fd
    dsimp only at o e0 e1 e2 e3 e4
    subst e1 e2 e3
    have o' := Option.some.inj o
    simp only [Prod.mk.injEq] at o'
    obtain ⟨rfl, rfl, rfl, rfl, rfl⟩ := o'
    split at e4
    · exact ⟨_, ⟨oc, od, .none, kV, doc, pm, an, cd, ct, osl, rfl, hl, e0, .inl ⟨rfl, rfl⟩, .inl rfl⟩, c1⟩
    · exact nomatch e4
  · exact nomatch c2
/-- a property's getter -/
def getterAt (x f : Str) (K : PySem.W.Frag) : Addr := match PySem.W.recIn K (He.ma K (He.ga K x) f) "property" with
  | some (.ref g :: _) => g
  | _ => 0
def propB (K : PySem.W.Frag) (x f : Str) : Bool :=
  decide (PySem.W.findIn K (.ref (He.ga K x)) f = some (some (.ref (He.ma K (He.ga K x) f)))) && (decide (PySem.W.specialIn K (.ref (He.ma K (He.ga K x) f)) "__get__" = some (some (.builtin "property.__get__"))) && (decide (PySem.W.takesIn K (.ref (He.ma K (He.ga K x) f)) = some true) &&
    (match PySem.W.recIn K (He.ma K (He.ga K x) f) "property" with | some (.ref _ :: _) => true | _ => false)))
theorem prop_of {K : PySem.W.Frag} {x f : Str} (c : propB K x f = true) : PropOf K (He.ga K x) f (He.ma K (He.ga K x) f) (getterAt x f K) := by
  unfold propB at c
  simp only [Bool.and_eq_true, decide_eq_true_eq] at c
  obtain ⟨c1, c2, c3, c4⟩ := c
  refine ⟨c1, c2, c3, ?_⟩
  split at c4
  · rename_i g r h
    refine ⟨r, ?_⟩
    unfold getterAt
    rw [h]
  · exact nomatch c4
def initAt (x : Str) (K : PySem.W.Frag) : Addr := He.ma K (He.ga K x) "__init__"
/-! ### what is asked of an exception's class -/
def xcB (K : PySem.W.Frag) (x : Str) (flds : List Str) (B newId initId : String) (bmB : List Value) : Bool :=
  let C := He.ga K x
  let f := He.ma K C "__init__"
  PySem.W.excInitIn K C bmB newId && (PySem.W.excOver K C bmB && ((match PySem.W.clsIn K C with | some cd => cd.hasDict | none => false) && (decide (PySem.W.findIn K (.ref C) "__setattr__" = some (some (.builtin "object.__setattr__"))) &&
  (decide (PySem.W.findIn K (.ref C) "__init__" = some (some (.ref f))) && (decide (PySem.W.ks_superIn K C C "__init__" = some (some (.builtin initId))) && (decide (PySem.W.subIn K (.ref C) (.type B) = some true) && (decide (PySem.W.mroIn K C (.ref C) = some true) &&
  (decide (PySem.W.nsIn K cStatics "thirdparty.any" = some none) && (decide (PySem.W.nsIn K mainGlobals "super" = some none) && ((match K.lookup f with
    | some ⟨.type fc, _, .func fd, _⟩ => decide (fc = "function") && (decide (fd.globals = mainGlobals) && (decide (fd.builtins = builtinsNs) && ((match fd.defaults with | .none => true | _ => false) && (match fd.code with
      | .ref c => PySem.W.codeIn K fd.code (x ++ ".__init__") && ((match K.lookup c with | some ⟨_, _, .fields vs, _⟩ => (match (vs[2]? : Option Value) with | some (.str fl _) => decide (fl = ("/claim/cut.py" : Str)) | _ => false) | _ => false) && (match fd.closure with
        | [(n, cc)] => decide (n = "__class__") && (match K.lookup cc with | some ⟨_, _, .cell (some (.ref D)), _⟩ => decide (D = C) | _ => false)
        | _ => false))
      | _ => false))))
    | _ => false) && (flds.all fun fl => decide (PySem.W.findIn K (.ref C) fl = some none)) && (PySem.W.keepIn K (.ref C) && (decide (PySem.W.subIn K (.ref C) (.type "BaseException") = some true) && (decide (PySem.W.typeIn K (.ref C) = some (.type "type")) &&
    (decide (PySem.W.findIn K (.ref C) "__getattribute__" = some (some (.builtin "BaseException.__getattribute__"))) && (decide (PySem.W.findIn K (.ref C) "__getattr__" = some none) && PySem.W.hasDictIn K C)))))))))))))))
/-- what is known of an exception's class x with the fields flds, its __init__ the def st -/
structure Ex (K : PySem.W.Frag) (mg : Str → Option Value) (x : Str) (flds : List Str) (st : Stmt) (B newId initId : String) (bmB : List Value) : Prop where
  gC : mg x = some (.ref (He.ga K x))
  xc : Xc K (He.ga K x) (He.ma K (He.ga K x) "__init__") B newId initId bmB (x ++ ".__init__") (defArgs st) (defBody st) (defScope st)
  nof : ∀ fl ∈ flds, PySem.W.findIn K (.ref (He.ga K x)) fl = some none
  kC : PySem.W.keepIn K (.ref (He.ga K x)) = true
  exC : PySem.W.subIn K (.ref (He.ga K x)) (.type "BaseException") = some true
  tyC : PySem.W.typeIn K (.ref (He.ga K x)) = some (.type "type")
  ga : PySem.W.findIn K (.ref (He.ga K x)) "__getattribute__" = some (some (.builtin "BaseException.__getattribute__"))
  gg : PySem.W.findIn K (.ref (He.ga K x)) "__getattr__" = some none
  hdC : PySem.W.hasDictIn K (He.ga K x) = true
theorem ex_of {K : PySem.W.Frag} {mg : Str → Option Value} {x : Str} {flds : List Str} {st : Stmt} {B newId initId : String} {bmB : List Value} (gC : mg x = some (.ref (He.ga K x))) (o : xnW K ⟨initAt x, "__init__", x ++ ".__init__", st⟩ = XnD.val ⟨initAt x, "__init__", x ++ ".__init__", st⟩) (c : xcB K x flds B newId initId bmB = true) : Ex K mg x flds st B newId initId bmB := by
  unfold xcB at c
  simp only [Bool.and_eq_true, decide_eq_true_eq, List.all_eq_true] at c
  obtain ⟨c1, c2, c3, c4, c5, c6, c7, c8, c9, c10, ⟨c11, c12⟩, c13, c14, c15, c16, c17, c18⟩ := c
  refine ⟨gC, ⟨c1, c2, ?_, c4, c5, c6, c7, c8, c9, c10, ?_⟩, c12, c13, c14, c15, c16, c17, c18⟩
  · cases h : PySem.W.clsIn K (He.ga K x) with
    | none => rw [h] at c3; exact nomatch c3
    | some cd => rw [h] at c3; exact ⟨cd, rfl, c3⟩
  · unfold xnW initAt at o
    split at c11
    · rename_i fc od fd osl hl
      simp only at o
      rw [hl] at o
      simp only [Bool.and_eq_true, decide_eq_true_eq] at c11
      obtain ⟨rfl, e1, e2, e3, e4⟩ := c11
      obtain ⟨nm, ql, pr, bo, sc, gl, clo, dfl, kV, doc, pm, an, cd, ct, bl⟩ := fd
      dsimp only at o e1 e2 e3 e4
      subst e1 e2
      have o' := Option.some.inj o
      simp only [Prod.mk.injEq] at o'
      obtain ⟨rfl, rfl, rfl, rfl, rfl⟩ := o'
      split at e3
      · split at e4
        · rename_i cda
          simp only [Bool.and_eq_true] at e4
          obtain ⟨f1, f2, f3⟩ := e4
          split at f2
          · rename_i ccl cdd vs ccs hco
            split at f2
            · rename_i fl tf hvs
              split at f3
              · rename_i n cc
                simp only [Bool.and_eq_true, decide_eq_true_eq] at f3
                obtain ⟨rfl, f4⟩ := f3
                split at f4
                · rename_i cl cld D csl hcc
                  have eD := of_decide_eq_true f4
                  have eF := of_decide_eq_true f2
                  subst eD eF
                  exact ⟨od, kV, doc, pm, an, cda, ct, cc, osl, ccl, cdd, vs, ccs, tf, cl, cld, csl, hl, f1, hco, hvs, hcc⟩
                · exact nomatch f4
              · exact nomatch f3
            · exact nomatch f2
          · exact nomatch f2
        · exact nomatch e4
      · exact nomatch e3
    · exact nomatch c11
end G
namespace G
open PySem PySem.Spec PyProof.Rows L2
/-! ### a table of the top with text keys: what is not in it -/
def onlyB (K : PySem.W.Frag) (a : Addr) (ks : List Str) : Bool := match K.lookup a with
  | some ⟨_, _, .dict es _, _⟩ => es.toList.all fun e => match e.key with
    | .str x _ => ks.contains x
    | _ => false
  | _ => false
theorem only_ok {K : PySem.W.Frag} {a : Addr} {ks : List Str} {z : Str} (h : onlyB K a ks = true) (hz : z ∉ ks) : PySem.W.nsIn K a z = some none := by
  unfold onlyB at h
  unfold PySem.W.nsIn
  split at h
  · rename_i oc od es n sl hl
    rw [hl]
    have h' := List.all_eq_true.mp h
    have f : es.toList.find? (·.key.isStr z) = none := by
      rw [List.find?_eq_none]
      intro e he hs
      have q := h' e he
      split at q
      · rename_i x t hk
        rw [hk] at hs
        have ex : x = z := by simpa [Value.isStr] using hs
        rw [ex] at q
        exact hz (by simpa using q)
      · exact nomatch q
    have g : es.toList.any (·.refKey) = false := by
      rw [List.any_eq_false]
      intro e he hs
      have q := h' e he
      split at q
      · rename_i x t hk
        unfold DictEntry.refKey at hs
        rw [hk] at hs
        exact nomatch hs
      · exact nomatch q
    show (match es.toList.find? (·.key.isStr z) with
      | some e => some (some e.val)
      | none => if es.toList.any (·.refKey) = true then none else some none) = some none
    rw [f, g]
    rfl
  · exact nomatch h
end G

namespace G
open PySem PySem.Spec PyProof.Rows L2
/-! ### own exceptions over the layer -/
theorem relO1 {fld : Str} {v : V} {u : Value} (r : RelV v u) (f : Str) : RelO (List.lookup f [(fld, v)]) (if f = fld then some u else none) := by
  by_cases e : f = fld
  · subst e
    rw [if_pos rfl, show List.lookup f [(f, v)] = some v by simp [List.lookup]]
    exact r
  · have b : (f == fld) = false := by simpa using e
    rw [if_neg e, show List.lookup f [(fld, v)] = none by simp [List.lookup, b]]
    trivial
section
variable {X : Cx} {x fld : Str} {st : Stmt} {B newId initId : String} {bmB : List Value}
/-- X(e) made, to be raised -/
def tMk1 (C : Addr) (fld : Str) (ta : TA) : L2.St → Hp → XK → Prop := fun σ H Q => ta σ H fun vs H1 => ∃ v, vs = [v] ∧ ∀ d, H1 d = none → Q (.ref C) (some d) (upd H1 d (.xd [(fld, v)]))
theorem pmk1 (kd : Kd B newId initId bmB) (T : Ex X.K X.mg x [fld] st B newId initId bmB) (Y : ∀ f, Ini1 f (x ++ ".__init__") (defArgs st) (defBody st) (defScope st) fld) (pf : PF X.prog) {a : Expr} {ta : TA} {p pos : Pos} {k : Nat} (hr : Room k X.A) (ha : PA X [a] ta) (hg : Gl X x := by rfl)
    (he : starEach (a :: []) X.env = (false, eval a X.env) :: starEach [] X.env := by rfl) (hpl : (backTo pos (starEach [] X.env)).any (·.1) = false := by rfl) (hd : (x == ("__debug__" : Str)) = false := by decide) :
    PMk X (.Call (.Name x p) [a] [] pos) (tMk1 (He.ga X.K x) fld ta) := by
  intro pins s σ H Q I h
  refine wpAny_Call_Name_kw (ld_glob I hg T.gC ?_ hd)
  refine PySem.W.callWith_K (h₀ := X.base) I.ok.mod.kin T.kC (thn (ha.run pos pins s σ H _ I h) fun us s1 hh => ?_) he hpl
  obtain ⟨vs, H1, I1, r1, v, rfl, q1⟩ := hh
  obtain ⟨u, rfl, ru⟩ := vals1 r1
  refine ⟨I1.kIn, ?_⟩
  obtain ⟨mb, hb, hbb⟩ := I1.ok.mod.blt
  have lim := I1.nolimit
  have bk := I1.bk
  have hgl := I1.ok.mod.glob.keeps bk
  have hsup : X.mg "super" = none := PySem.W.mg_none_of I1.ok.mod.kin I1.ok.mod.glob T.xc.mgs
  have hbs : mb "super" = some (.type "super") := (hbb _ (by decide)).trans (by decide +kernel)
  have hbl := hb.keeps bk
  obtain ⟨hp, g, dr, tk, os⟩ := s1
  refine wpAny_call (x_made1 kd T.xc (Y _) pf (T.nof fld List.mem_cons_self) I1.kIn lim hgl hsup hbl hbs (by have := hr.dp; omega) fun h' tk' e d M => ?_)
  show MkP X pins σ Q (.ref e) ⟨h', g, dr, tk', os⟩
  obtain ⟨oe, fv, hoe, hc, hdd, hdat, h1⟩ := M.obj
  obtain ⟨G', g1, g2⟩ := restrict h' fun b => decide (b ≠ e)
  have gk : ∀ b, b ≠ e → G'.get? b = h'.get? b := fun b hb => g1 b (decide_eq_true hb)
  have ge : G'.get? e = none := g2 e (by simp)
  have old : ∀ b o, hp.get? b = some o → G'.get? b = some o := fun b o q => (gk b (Nat.ne_of_lt (Nat.lt_of_lt_of_le (Heap.lt_size q) M.new))).trans (M.keep b o q)
  have ob : ObjOk X.prog X.w (upd H1 d (.xd [(fld, v)])) G' d (.xd [(fld, v)]) := ⟨_, M.ns.at (fun o q => (gk d M.ne).trans q), fun f => relO1 ru f⟩
  have J : Inv X pins σ (upd H1 d (.xd [(fld, v)])) ⟨G', g, dr, tk', os⟩ := I1.laid (t' := tk') old M.big ob
  refine ⟨e, oe, fv, ⟨G', g, dr, tk', os⟩, _, .ref (He.ga X.K x), some d, rfl, J, fun b o q => ?_, ge, hoe, ⟨hc, hdd⟩, hdat, h1, ?_, rfl, I1.bare, raises_own T.exC T.tyC, q1 d (I1.hok.fresh M.big)⟩
  · by_cases hz : b = e
    · rw [hz] at q
      exact nomatch ge.symm.trans q
    · exact (gk b hz).symm.trans q
  · rw [upd_ne (Ne.symm M.ne)]
    exact I1.hok.fresh M.new
/-- e.f, e the exception that the suite holds -/
def tFldE (C a : Addr) (cls : Value) (d : Option Addr) (fld : Str) (te : TE) : TE := fun σ H Q => te σ H fun y H1 => y = .ref a ∧ cls = .ref C ∧ ∃ (dd : Addr) (fs : List (Str × V)) (v : V), d = some dd ∧ H1 dd = some (.xd fs) ∧ fs.lookup fld = some v ∧ Q v H1
theorem pe_fldE {flds : List Str} {a : Addr} {oe : Obj} {cls : Value} {d : Option Addr} {pn : List (Addr × Obj)} {e : Expr} {te : TE} {pos : Pos} (T : Ex X.K X.mg x flds st B newId initId bmB) (hfl : fld ∈ flds) (hz : Zc cls d oe) (hf : ∃ vs, oe.data = .fields vs) (he : PE (X.suite a ((a, oe) :: pn)) e te)
    (hb : attributeBase e fld X.env (eval e X.env) = eval e X.env := by rfl) : PE (X.suite a ((a, oe) :: pn)) (.Attribute e fld pos) (tFldE (He.ga X.K x) a cls d fld te) := by
  refine ⟨fun pins s σ H Q I h => ?_⟩
  refine attr_of hb (thn (he.run pins s σ H _ I h) fun u s1 hh => ?_)
  obtain ⟨y, H1, I1, rx, rfl, rfl, dd, fs, v, rfl, ea, lk, q⟩ := hh
  cases (show u = Value.ref a from rx)
  obtain ⟨ha, _⟩ := I1.pin (a, oe) (List.mem_append_left _ List.mem_cons_self)
  obtain ⟨vs, hd⟩ := hf
  obtain ⟨mA, hns, hr⟩ := (show ObjOk X.prog X.w H1 s1.heap dd (.xd fs) from I1.hok dd _ ea)
  obtain ⟨od, ho, hl⟩ := lookIn_ns hns
  obtain ⟨u, hu, ru⟩ := RelO.some_of (v := v) (o := mA fld) (by rw [← lk]; exact hr fld)
  have J : PySem.W.InstAt s1.heap a oe (He.ga X.K x) (some od) := ⟨ha, hz.1, by unfold PySem.W.notCls; rw [hd] <;> rfl, by rw [hz.2]; exact ho⟩
  exact HandSPX.exc_get I1.kIn J T.ga T.gg T.exC (PySem.W.findObj_own T.hdC (T.nof fld hfl) rfl (by rw [hl, hu])) (handed_of ru) ⟨v, H1, I1.tok _, ru, q⟩
end
/-! ### defs that may raise, by name -/
structure CalX (P : Program) (w : World) (K : PySem.W.Frag) (mg : Str → Option Value) (bs : Heap) (k : Nat) (x : Str) (sp : Sp) (dvs : List V) : Prop where
  ex : ∃ (f : Addr) (fd : FuncData) (ps : List Str) (ds : List Value), FnOk P w K mg bs (L2.CX P w) k f fd ps sp ∧ mg x = some (.ref f) ∧ PySem.W.keepIn K (.ref f) = true ∧ Binds K fd ps ds ∧ Vals dvs ds
section
variable {X : Cx} {k j n : Nat} {sp : Sp} {dvs : List V} {x : Str} {p pos : Pos} {e : Expr} {es : List Expr} {kws : List Keyword} {t tk : TA} {ks : List Str} {gV : List V → List V → List V} {W : WX}
/-- it raises nothing here -/
theorem pe_cX (c : CalX X.prog X.w X.K X.mg X.base k x sp dvs) (hr : Room j X.A) (hk : k ≤ j) (hg : Gl X x) (ha : PA X (e :: es) t)
    (h1 : (x == ("__debug__" : Str)) = false := by decide) (h2 : starEach (e :: es) X.env = (false, eval e X.env) :: starEach es X.env := by rfl) (h3 : (backTo pos (starEach es X.env)).any (·.1) = false := by rfl) :
    PE X (.Call (.Name x p) (e :: es) [] pos) (tCall sp dvs E0 t) := by
  obtain ⟨f, fd, ps, ds, F, hm, kp, b, d⟩ := c.ex
  exact pe_call F (hr.mono hk) hg hm kp b d passL ha h1 h2 h3
/-- what it raises is taken here -/
theorem pe_cW (c : CalX X.prog X.w X.K X.mg X.base k x sp dvs) (tw : Takes X W) (hr : Room j X.A) (hk : k ≤ j) (hg : Gl X x) (ha : PA X (e :: es) t)
    (h1 : (x == ("__debug__" : Str)) = false := by decide) (h2 : starEach (e :: es) X.env = (false, eval e X.env) :: starEach es X.env := by rfl) (h3 : (backTo pos (starEach es X.env)).any (·.1) = false := by rfl) :
    PE X (.Call (.Name x p) (e :: es) [] pos) (tCallSD sp dvs (WE W) t) := by
  obtain ⟨f, fd, ps, ds, F, hm, kp, b, d⟩ := c.ex
  exact pe_callSD F (hr.mono hk) hg hm kp b d (fun σ => passAt tw σ) ha h1 h2 h3
end
/-! ### C(e, .., k = v) that may raise, with the wish at the slots -/
def tMakeW (C : Addr) (n m : Nat) (sp : Sp) (gV : List V → List V → List V) (W : WX) (t tk : TA) : TE := fun σ H Q => t σ H fun vs H1 => tk σ H1 fun zs H2 => vs.length = n ∧ zs.length = m ∧ ∀ x dx, H2 x = none → H2 dx = none → dx ≠ x →
  sp (gV (.ref x :: vs) zs) (upd (upd H2 dx (.own x)) x (.ins C dx [])) (fun v H3 => v = .non ∧ Q (.ref x) H3) (WE W σ)
section
variable {X : Cx} {k n : Nat} {f C : Addr} {fd : FuncData} {ps ks : List Str} {sp : Sp} {W : WX} {x : Str} {p pos : Pos} {e : Expr} {es : List Expr} {kws : List Keyword} {t tk : TA} {g : List Value → List Value → List Value} {gV : List V → List V → List V}
theorem run_makeW {pins : List (Addr × Obj)} {σ : L2.St} {H : Hp} {s : Shared} {Q : VK} {us ws : List Value} {vs zs : List V} (M : Mk X.K C f) (F : FnOk X.prog X.w X.K X.mg X.base (L2.CX X.prog X.w) k f fd ps sp) (tw : Takes X W) (hr : Room (k + 1) X.A) (hb : KBn X.K fd ps (n + 1) ks g gV)
    (I : Inv X pins σ H s) (r : Vals vs us) (rz : Vals zs ws) (l1 : vs.length = n) (l2 : zs.length = ks.length)
    (h : ∀ x dx, H x = none → H dx = none → dx ≠ x → sp (gV (.ref x :: vs) zs) (upd (upd H dx (.own x)) x (.ins C dx [])) (fun v H2 => v = .non ∧ Q (.ref x) H2) (WE W σ)) :
    wpAny (model X.prog X.w) X.A (call (.ref C) us (ks.zip ws)) (EP X pins σ Q) X.xe s := by
  have hq := h (s.heap.objs.size + 1) s.heap.objs.size (I.hok.fresh (Nat.le_succ _)) (I.hok.fresh (Nat.le_refl _)) (Nat.ne_of_lt (Nat.lt_succ_self _))
  have I2 := Inv.made (C := C) I
  have ra : Vals (V.ref (s.heap.objs.size + 1) :: vs) (Value.ref (s.heap.objs.size + 1) :: us) := .cons rfl r
  have na : (Value.ref (s.heap.objs.size + 1) :: us).length = n + 1 := by rw [List.length_cons, ← r.length, l1]
  refine wpAny_call (make_map (f := f) I.kIn M.makes M.init (beq_iff_eq.mp M.fn) (codeAny_mono (F.run _ X.stack _ _ ⟨Value.ref (s.heap.objs.size + 1) :: us, ks.zip ws⟩ (g (Value.ref (s.heap.objs.size + 1) :: us) ws) _ _ (WE W σ) (hr.make C us (ks.zip ws))
    (I2.env0.make C us (ks.zip ws)) (hb.to _ (Value.ref (s.heap.objs.size + 1) :: us) ws I2.kIn na (rz.length.symm.trans l2)) (hb.rel ra rz) hq) fun z s' hz => ?_))
  cases z with
  | error b => exact passAt tw σ pins _ _ b s' I2 hz
  | ok fl => cases fl with
    | ret u =>
      obtain ⟨v, H', I3, rv, rfl, q3⟩ := I2.after hz
      exact ⟨rv, V.ref (s.heap.objs.size + 1), H', I3, rfl, q3⟩
    | next => exact hz.elim
    | brk => exact hz.elim
    | cont => exact hz.elim
theorem pe_makeW (M : Mk X.K C f) (F : FnOk X.prog X.w X.K X.mg X.base (L2.CX X.prog X.w) k f fd ps sp) (tw : Takes X W) (hr : Room (k + 1) X.A) (hg : Gl X x) (hm : X.mg x = some (.ref C)) (hb : KBn X.K fd ps (n + 1) ks g gV) (ha : PA X (e :: es) t) (hkw : PK X kws tk)
    (h1 : (backToKw pos (keywordEach kws X.env)).all (·.1.isSome) = true := by rfl) (h2 : (backToKw pos (keywordEach kws X.env)).filterMap (·.1) = ks := by rfl) (h3 : (x == ("__debug__" : Str)) = false := by decide)
    (h4 : starEach (e :: es) X.env = (false, eval e X.env) :: starEach es X.env := by rfl) (h5 : ((backTo pos (starEach (e :: es) X.env)).any (·.1) || (backToKw pos (keywordEach kws X.env)).any (·.1.isNone)) = false := by rfl) :
    PE X (.Call (.Name x p) (e :: es) kws pos) (tMakeW C n ks.length sp gV W t tk) := by
  refine ⟨fun pins s σ H Q I h => ?_⟩
  refine wpAny_Call_Name_kw (ld_glob I hg hm (PySem.W.callWith_KW (h₀ := X.base) I.ok.mod.kin M.kp h1 (thn (ha.run pos pins s σ H _ I h) fun us s1 ⟨vs, H1, I1, r, q⟩ => ?_) h5 h4) h3)
  refine thn (hkw.run pos pins s1 σ H1 _ I1 q) fun ws s2 ⟨zs, H2, I2, rz, l1, l2, q2⟩ => ⟨I2.kIn, ?_⟩
  rw [h2]
  exact run_makeW M F tw hr hb I2 r rz l1 l2 q2
end
end G

namespace G
open PySem PySem.Spec PyProof.Rows L2
/-! ### zip(text, tuple) -/
def ItzS (K : PySem.W.Frag) (x : Str) (b : Addr) : It :=
  ⟨fun i H => i < x.cps.size ∧ ∃ (ys : List V) (y : V), SqT K H b ys ∧ ys[i]? = some y,
    fun i H v H' => ∃ T c y, v = .ref T ∧ H T = none ∧ H' = upd H T (.tup [.str ⟨#[c]⟩, y]) ∧ x.cps[i]? = some c ∧ ∀ ys, SqT K H b ys → ys[i]? = some y,
    fun i H => ∃ ys : List V, SqT K H b ys ∧ i ≤ x.cps.size ∧ i ≤ ys.length ∧ (i = x.cps.size ∨ i = ys.length)⟩
theorem turn_zipS {P : Program} {w : World} {K : PySem.W.Frag} {elts : List Expr} {kk : Nat} {tpos : Pos} {x : Str} {t : Tok} {b z TI TO i1 i2 : Addr} (D : ZipSep2 z TI TO i1 i2 [i1] [i2, b]) (nb : b ≠ i2) :
    Turn P w K (.Tuple elts kk tpos) (ItzS K x b) [z, TI, TO, i1, i2] z (fun i h => IsZip h z TI TO .none ∧ IsTupOf2 h TI (.ref i1) (.ref i2) ∧ (∃ x y, IsTupOf2 h TO x y) ∧ h.IsStrIter i1 (strIterType x) x t i ∧ h.IsTupleIter i2 b i) where
  mem := by simp
  obj := fun i h st c hc => by
    obtain ⟨hz, hTI, ⟨x, y, hTO⟩, ⟨o1, e1, _, d1⟩, ⟨o2, e2, _, d2⟩⟩ := st
    have e' : c = z ∨ c = TI ∨ c = TO ∨ c = i1 ∨ c = i2 := by simpa using hc
    rcases e' with rfl | rfl | rfl | rfl | rfl
    · exact ⟨_, hz, fun v q => nomatch q⟩
    · exact ⟨_, hTI, fun v q => nomatch q⟩
    · exact ⟨_, hTO, fun v q => nomatch q⟩
    · exact ⟨o1, e1, fun v q => by rw [d1] at q; cases q⟩
    · exact ⟨o2, e2, fun v q => by rw [d2] at q; cases q⟩
  keep := fun i h h' st k => by
    obtain ⟨hz, hTI, ⟨x, y, hTO⟩, ⟨o1, e1, r1⟩, h2⟩ := st
    exact ⟨k z (by simp) _ hz, k TI (by simp) _ hTI, ⟨x, y, k TO (by simp) _ hTO⟩, ⟨o1, k i1 (by simp) o1 e1, r1⟩, h2.at fun o q => k i2 (by simp) o q⟩
  item := by
    intro X hP hw hK hc i pins s σ H E I hf st hg
    subst hP hw hK
    obtain ⟨hz, hTI, ⟨x0, y0, hTO⟩, h1, h2⟩ := st
    obtain ⟨hlt, ys, y, hqy, hy⟩ := hg
    obtain ⟨its2, rv2, p2, _⟩ := I.tuple hqy
    obtain ⟨u2, hu2, ru2⟩ := rv2.get hy
    have hzl : z < s.heap.objs.size := Heap.lt_size hz
    have hlt2 : i < its2.toArray.size := by
      have := (List.getElem?_eq_some_iff.mp hu2).1
      simpa using this
    have D1 : Draws X.prog X.w X.A.in1 i1 [i1] x.cps.size _ (fun i h => h.IsStrIter i1 (strIterType x) x t i) := Draws.text (show X.A.in1.handled = none from I.ok.hd hc) i1 x t
    have D2 : Draws X.prog X.w X.A.in1 i2 [i2, b] its2.toArray.size _ (fun i h => h.IsTupleIter i2 b i ∧ h.IsTuple b its2.toArray) := Draws.tuple (show X.A.in1.handled = none from I.ok.hd hc) i2 b nb its2.toArray
    refine wpAny_pyNext_zipD2_item D D1 D2 hz hTI hTO h1 ⟨h2, p2⟩ hlt hlt2 fun v1 v2 h' tk q1 q2 z' TO' h1' h2' hT hsz hk => ?_
    obtain ⟨c, cu, hcx, rfl⟩ := q1
    have e2 : v2 = u2 := Option.some.inj (q2.symm.trans (by simpa using hu2))
    subst e2
    refine ⟨_, rfl, wpAny_letOwnedTupleGo_zip (s := { s with heap := h', toks := tk }) z' fun h'' z'' sb => ?_⟩
    have hT2 : h''.get? s.heap.objs.size = some { cls := .type "tuple", data := .seq #[.str ⟨#[c]⟩ cu, v2] } := (sb.2 _ (Nat.ne_of_gt hzl)).trans hT
    have new : ObjOk X.prog X.w (upd H s.heap.objs.size (.tup [.str ⟨#[c]⟩, y])) h'' s.heap.objs.size (.tup [.str ⟨#[c]⟩, y]) :=
      ⟨by show 2 ≤ sizeLine; decide, [.str ⟨#[c]⟩ cu, v2], .cons ⟨cu, rfl⟩ (.cons ru2 .nil), ⟨_, hT2, rfl, _, rfl⟩⟩
    have I1 : Inv X pins σ (upd H s.heap.objs.size (.tup [.str ⟨#[c]⟩, y])) { s with heap := h'', toks := tk } :=
      I.turnedNew (t' := tk) (ch := [z, TI, TO, i1, i2]) (fun c o hb q => (sb.2 c (fun q' => hb (by simp [q']))).trans (hk c o (fun q' => hb (by simp [q'])) (fun q' => hb (by simp [q'])) (fun q' => hb (by simp [q'])) (fun q' => hb (by simp [q'])) q)) hf (Nat.le_refl _) new
    refine ⟨.ref s.heap.objs.size, _, I1, rfl, ⟨_, c, y, rfl, I.hok.fresh (Nat.le_refl _), rfl, hcx, fun l hl => by rw [I.tuple_inj hl hqy]; exact hy⟩, ⟨z'', ?_, ⟨.str ⟨#[c]⟩ cu, v2, ?_⟩, ?_, ?_⟩, fun c hcm => ?_⟩
    · exact (sb.2 _ D.TIz).trans (hk _ _ D.TIz D.TITO D.TIi1 D.TIi2 hTI)
    · exact (sb.2 _ D.TOz).trans TO'
    · obtain ⟨o1, e1, r1⟩ := h1'
      exact ⟨o1, (sb.2 _ D.zi1.symm).trans e1, r1⟩
    · exact h2'.1.at fun o q => (sb.2 _ D.zi2.symm).trans q
    · have hl : c < s.heap.objs.size := by
        have e' : c = z ∨ c = TI ∨ c = TO ∨ c = i1 ∨ c = i2 := by simpa using hcm
        rcases e' with q | q | q | q | q
        · rw [q]; exact hzl
        · rw [q]; exact Heap.lt_size hTI
        · rw [q]; exact Heap.lt_size hTO
        · rw [q]; obtain ⟨_, e1, _⟩ := h1; exact Heap.lt_size e1
        · rw [q]; obtain ⟨_, e2, _⟩ := h2; exact Heap.lt_size e2
      rw [upd_ne (Nat.ne_of_lt hl)]
      exact (hf c hcm).1
  done := by
    intro X hP hw hK hc i pins s σ H E I hf st hg
    subst hP hw hK
    obtain ⟨hz, hTI, ⟨x0, y0, hTO⟩, h1, h2⟩ := st
    obtain ⟨ys, hqy, l1, l2, hend⟩ := hg
    obtain ⟨its2, rv2, p2, _⟩ := I.tuple hqy
    have e2 : ys.length = its2.toArray.size := by rw [rv2.length]; simp
    rw [e2] at l2 hend
    have D1 : Draws X.prog X.w X.A.in1 i1 [i1] x.cps.size _ (fun i h => h.IsStrIter i1 (strIterType x) x t i) := Draws.text (show X.A.in1.handled = none from I.ok.hd hc) i1 x t
    have D2 : Draws X.prog X.w X.A.in1 i2 [i2, b] its2.toArray.size _ (fun i h => h.IsTupleIter i2 b i ∧ h.IsTuple b its2.toArray) := Draws.tuple (show X.A.in1.handled = none from I.ok.hd hc) i2 b nb its2.toArray
    exact wpAny_pyNext_zipD2_end D D1 D2 hz hTI hTO h1 ⟨h2, p2⟩ l1 l2 hend fun h' tk hk => ⟨rfl, I.turnedL (t' := tk) (ch := [z, TI, TO, i1, i2]) (fun c o hb q =>
      hk c o (fun q' => hb (by simp [q'])) (fun q' => hb (by simp [q'])) (fun q' => hb (by simp [q'])) (fun q' => hb (by simp [q'])) q) hf⟩
  self := fun A i s Q E st h => wpAny_pyIter_zip st.1 h
theorem zsep (n b : Nat) (h : b < n) : ZipSep2 (n + 4) (n + 2) (n + 3) n (n + 1) [n] [n + 1, b] where
  TIz := (by omega : ¬ (n + 2 : Nat) = n + 4)
  TOz := (by omega : ¬ (n + 3 : Nat) = n + 4)
  TITO := (by omega : ¬ (n + 2 : Nat) = n + 3)
  TIi1 := (by omega : ¬ (n + 2 : Nat) = n)
  mem1 := List.mem_singleton.mpr rfl
  zf1 := fun z => (by omega : ¬ (n + 4 : Nat) = n) (List.mem_singleton.mp z)
  Tf1 := fun z => (by omega : ¬ (n + 3 : Nat) = n) (List.mem_singleton.mp z)
  TIi2 := (by omega : ¬ (n + 2 : Nat) = n + 1)
  mem2 := List.mem_cons_self
  zf2 := fun z => (List.mem_cons.mp z).elim (by omega : ¬ (n + 4 : Nat) = n + 1) fun y => (by omega : ¬ (n + 4 : Nat) = b) (List.mem_singleton.mp y)
  Tf2 := fun z => (List.mem_cons.mp z).elim (by omega : ¬ (n + 3 : Nat) = n + 1) fun y => (by omega : ¬ (n + 3 : Nat) = b) (List.mem_singleton.mp y)
  sep1_2 := fun z => (List.mem_cons.mp z).elim (by omega : ¬ (n : Nat) = n + 1) fun y => (by omega : ¬ (n : Nat) = b) (List.mem_singleton.mp y)
  sep2_1 := fun z => (by omega : ¬ (n + 1 : Nat) = n) (List.mem_singleton.mp z)
def iZipS (K : PySem.W.Frag) (ta : TA) : TI := fun σ H R => ta σ H fun vs H1 => ∃ x b ys, vs = [.str x, .ref b] ∧ SqT K H1 b ys ∧ R (ItzS K x b) H1
theorem pi_zipS {X : Cx} {e e2 : Expr} {ta : TA} {p pos tpos : Pos} {elts : List Expr} {kk : Nat} (hg : Gl X "zip") (hm : X.mg "zip" = none) (ha : PA X [e, e2] ta)
    (hs : starEach [e, e2] X.env = (false, eval e X.env) :: starEach [e2] X.env := by rfl) (hpl : (backTo pos (starEach [e2] X.env)).any (·.1) = false := by rfl) :
    PI X (.Tuple elts kk tpos) (.Call (.Name "zip" p) [e, e2] [] pos) (iZipS X.K ta) := by
  refine ⟨fun pins s σ H R I h => ?_⟩
  refine Call_ (ld_blt I hg hm PyProof.Rows.boot_zip (PyProof.Rows.callWith_type1 (thn (ha.run pos pins s σ H _ I h) fun us s1 ⟨vs, H1, I1, r1, q1⟩ => ?_) hs hpl))
  obtain ⟨x, b, ys, rfl, hqy, q⟩ := q1
  cases r1 with
  | cons r rr =>
    cases rr with
    | cons r' rr =>
      cases rr
      obtain ⟨t, rfl⟩ := r
      cases r'
      obtain ⟨its2, rv2, p2, _⟩ := I1.tuple hqy
      obtain ⟨o2, ho2, _⟩ := id p2
      have lb : b < s1.heap.objs.size := Heap.lt_size ho2
      refine zip_begins2 (begins_text x t) (begins_tuple b its2.toArray) trivial p2 fun h' hz hTI hTO h1 h2 hsz hk => wpAny_pyIter_zip hz ?_
      have I2 : Inv X pins σ H1 { s1 with heap := h' } := I1.kept (t' := s1.toks) hk
      refine ⟨s1.heap.objs.size + 4, [s1.heap.objs.size + 4, s1.heap.objs.size + 2, s1.heap.objs.size + 3, s1.heap.objs.size, s1.heap.objs.size + 1], _, _, H1, rfl, I2, turn_zipS (x := x) (t := t) (b := b) ?_ ?_, ⟨hz, hTI, ⟨_, _, hTO⟩, ⟨_, h1, rfl, rfl⟩, ⟨_, h2, rfl, rfl⟩⟩, fun c hcm => ?_, q⟩
      · exact zsep _ _ lb
      · exact Nat.ne_of_lt (Nat.lt_succ_of_lt lb)
      · have hle : s1.heap.objs.size ≤ c := by
          have e' : c = s1.heap.objs.size + 4 ∨ c = s1.heap.objs.size + 2 ∨ c = s1.heap.objs.size + 3 ∨ c = s1.heap.objs.size ∨ c = s1.heap.objs.size + 1 := by simpa using hcm
          rcases e' with z | z | z | z | z
          · rw [z]; exact Nat.le_add_right _ _
          · rw [z]; exact Nat.le_add_right _ _
          · rw [z]; exact Nat.le_add_right _ _
          · rw [z]; exact Nat.le_refl _
          · rw [z]; exact Nat.le_add_right _ _
        exact I1.fpOk hle (I1.hok.fresh hle)
end G
namespace G
open PySem PySem.Spec PyProof.Rows L2
theorem walk_zipS {K : PySem.W.Frag} {x : Str} {b : Addr} {ys : List V} (hl : x.cps.size = ys.length) :
    Walk (ItzS K x b) x.cps.size (fun H => SqT K H b ys) (fun i H v H' => ∃ T c y, v = .ref T ∧ H T = none ∧ H' = upd H T (.tup [.str ⟨#[c]⟩, y]) ∧ x.cps[i]? = some c ∧ ys[i]? = some y) where
  goes := fun i H hi h => ⟨hi, ys, ys[i], h, List.getElem?_eq_getElem (hl ▸ hi)⟩
  stops := fun H h => ⟨ys, h, Nat.le_refl _, by omega, .inl rfl⟩
  yields := fun i H v H' hi h ⟨T, c, y, e1, e2, e3, e4, e5⟩ => ⟨T, c, y, e1, e2, e3, e4, e5 ys h⟩
/-- [e for a, b in zip(text, tuple)], e leaves what is known -/
theorem lc_zipS {K : PySem.W.Frag} {x : Str} {b : Addr} {ys : List V} (hl : x.cps.size = ys.length) (f : Nat → V) {te : TE} {j1 j2 : Nat} {vs : List Nat} {σ : L2.St} {H : Hp} {D : Addr} {Qd : Hp → Prop}
    (hn : x.cps.size ≤ 100000) (hD : H D = none) (hG : SqT K H b ys) (hw : ∀ a b, wipe (((wipe σ vs).set j1 (some a)).set j2 (some b)) vs = wipe σ vs)
    (he : ∀ i H1 c y, x.cps[i]? = some c → ys[i]? = some y → Same H H1 → ∀ Q : VK, (∀ H2, Same H1 H2 → Q (f i) H2) → te (((wipe σ vs).set j1 (some (.str ⟨#[c]⟩))).set j2 (some y)) H1 Q) (hd : ∀ H', Same H H' → H' D = some (.lst ((List.range x.cps.size).map f)) → Qd H') :
    ∃ W : Nat → Nat → Hp → Prop, (∃ m, W 0 m (upd H D (.lst []))) ∧ ∀ i m H, W i m H →
      ((ItzS K x b).stop i H ∧ Qd H) ∨ ((ItzS K x b).go i H ∧ ∃ Nx : Hp → Prop, (∀ H', Nx H' → ∃ m', m' < m ∧ W (i + 1) m' H') ∧ ∀ x1 H', (ItzS K x b).yld i H x1 H' → gTup K 2 (gCons (gName j1) (gCons (gName j2) gNil)) x1 (wipe σ vs) H' fun σ2 H2 => wipe σ2 vs = wipe σ vs ∧ tYes σ2 H2 fun b H3 =>
        if b = true then te σ2 H3 fun y H4 => ∃ acc, H4 D = some (.lst acc) ∧ acc.length < sizeLine ∧ Nx (upd H4 D (.lst (acc ++ [y]))) else Nx H3) := by
  refine lc_it (tt := tYes) (walk_zipS hl) (fun i H' => Same H H' ∧ H' D = some (.lst ((List.range i).map f))) ⟨Same.new hD, upd_same⟩ (fun i H' _ p => Same.sqT p.1 hG) ?_ (fun H' p => hd H' p.1 p.2)
  rintro i x1 H1 H2 hi p ⟨T, c, y, rfl, hT, rfl, h1, h2⟩
  have s1 : Same H1 (upd H1 T (.tup [.str ⟨#[c]⟩, y])) := Same.new hT
  refine ⟨T, _, rfl, tup_sq upd_same, rfl, _, _, rfl, _, _, rfl, rfl, hw _ _, ?_⟩
  unfold tYes
  refine iteT (he i _ c y h1 h2 (Same.tr p.1 s1) _ fun H3 s3 => ?_)
  refine ⟨_, s3 _ _ (s1 _ _ p.2), ?_, Same.chg (Same.tr (Same.tr p.1 s1) s3) hD, ?_⟩
  · rw [List.length_map, List.length_range]
    exact Nat.lt_of_lt_of_le (Nat.lt_of_lt_of_le hi hn) (by decide)
  · rw [upd_same, List.range_succ, List.map_append] <;> rfl
/-! ### tuples, cut and joined; a text so many times -/
def TpA (H : Hp) (v : V) (xs : List V) : Prop := ∃ a, v = .ref a ∧ H a = some (.tup xs)
theorem TpA.same {H H' : Hp} {v : V} {xs : List V} (s : Same H H') (h : TpA H v xs) : TpA H' v xs := by
  obtain ⟨a, e, h⟩ := h
  exact ⟨a, e, s _ _ h⟩
theorem slA {K : PySem.W.Frag} {H : Hp} {v : V} {xs : List V} {lo hi : Option Int} {Q : VK} (h : TpA H v xs) (q : ∀ u H', Same H H' → TpA H' u (cutV xs lo hi) → Q u H') : rSlA K v lo hi H Q := by
  obtain ⟨a, rfl, h⟩ := h
  refine ⟨a, xs, rfl, tup_sq h, fun z => q _ _ Same.rfl' ⟨a, rfl, ?_⟩, fun z p hp => q _ _ (Same.new hp) ⟨p, rfl, upd_same⟩⟩
  have e : cutV xs lo hi = xs := by
    unfold cutV
    rw [z.1, z.2, List.drop_zero, Nat.sub_zero, List.take_length]
  rw [e]
  exact h
theorem slA_n {K : PySem.W.Frag} {σ : L2.St} {H : Hp} {v : V} {xs : List V} {lo : Option Int} {Q : VK} (h : TpA H v xs) (q : ∀ u H', Same H H' → TpA H' u (cutV xs lo none) → Q u H') : tNoPart σ H fun u H3 => rSlA K v lo u H3 Q := slA h q
theorem catA {K : PySem.W.Frag} {H : Hp} {v u : V} {xs ys : List V} {Q : VK} (h : TpA H v xs) (h2 : TpA H u ys) (hl : xs.length + ys.length ≤ sizeLine) (q : ∀ u H', Same H H' → TpA H' u (xs ++ ys) → Q u H') : rCatA K v u H Q := by
  obtain ⟨a, rfl, h⟩ := h
  obtain ⟨b, rfl, h2⟩ := h2
  refine ⟨a, b, xs, ys, rfl, rfl, tup_sq h, tup_sq h2, hl, fun z => q _ _ Same.rfl' ⟨b, rfl, ?_⟩, fun _ z => q _ _ Same.rfl' ⟨a, rfl, ?_⟩, fun _ _ p hp => q _ _ (Same.new hp) ⟨p, rfl, upd_same⟩⟩
  · rw [z]; exact h2
  · rw [z, List.append_nil]; exact h
theorem op_mulS {X : Cx} : OpR X (binaryOp .Mult) (fun x y H Q => ∃ a n, x = .str a ∧ y = .int n ∧ MulOk a n ∧ Q (.str (Txt.mul a n)) H) := by
  intro pins s σ H x y v u Q I rx ry h
  obtain ⟨a, n, rfl, rfl, m, q⟩ := h
  obtain ⟨t, rfl⟩ := rx
  obtain ⟨t2, rfl⟩ := ry
  exact SB.mul m fun t' k => ⟨.str _, H, I.tok _, ⟨t', rfl⟩, q⟩
/-! ### new things, told by what is known of them -/
def tLstN (t : TA) : TE := fun σ H Q => t σ H fun xs H1 => xs.length ≤ sizeLine ∧ ∀ p H', H1 p = none → Same H1 H' → H' p = some (.lst xs) → Q (.ref p) H'
def tTupN (t : TA) : TE := fun σ H Q => t σ H fun xs H1 => xs.length ≤ sizeLine ∧ ∀ p H', H1 p = none → Same H1 H' → H' p = some (.tup xs) → Q (.ref p) H'
def rCatN : R2 := fun x y H Q => ∃ l b xs zs, x = .ref l ∧ y = .ref b ∧ H l = some (.lst xs) ∧ H b = some (.lst zs) ∧ xs.length + zs.length ≤ sizeLine ∧ ∀ p H', H p = none → Same H H' → H' p = some (.lst (xs ++ zs)) → Q (.ref p) H'
section
variable {X : Cx} {es : List Expr} {t : TA} {pos : Pos}
theorem pe_tupN {x1} (h : PA X es t) : PE X (.Tuple es x1 pos) (tTupN t) := ⟨fun pins s σ H Q I hq => by
  refine wpAny_Tuple_spliced (thn (h.run pos pins s σ H _ I hq) fun us s1 hh => ?_)
  obtain ⟨xs, H1, I1, r, z, q⟩ := hh
  have hf : H1 s1.heap.objs.size = none := I1.hok.fresh (Nat.le_refl _)
  exact ⟨by rw [← r.length]; exact z, .ref s1.heap.objs.size, upd H1 s1.heap.objs.size (.tup xs), I1.laid (t' := s1.toks) (fun b u e => Heap.get?_push_of_some _ e) (Nat.le_refl _) ⟨z, us, r, ⟨_, Heap.get?_push_size _ rfl, rfl, _, rfl⟩⟩, rfl, q _ _ hf (Same.new hf) upd_same⟩⟩
theorem pe_lstN (h : PA X es t) : PE X (.List es pos) (tLstN t) := ⟨fun pins s σ H Q I hq => by
  refine wpAny_List_spliced (thn (h.run pos pins s σ H _ I hq) fun us s1 hh => ?_)
  obtain ⟨xs, H1, I1, r, z, q⟩ := hh
  have hf : H1 s1.heap.objs.size = none := I1.hok.fresh (Nat.le_refl _)
  exact ⟨by rw [← r.length]; exact z, .ref s1.heap.objs.size, upd H1 s1.heap.objs.size (.lst xs), I1.laid (t' := s1.toks) (fun b u e => Heap.get?_push_of_some _ e) (Nat.le_refl _) ⟨z, us, 0, r, Heap.get?_push_size _ rfl⟩, rfl, q _ _ hf (Same.new hf) upd_same⟩⟩
theorem op_catN : OpR X (binaryOp .Add) rCatN := by
  intro pins s σ H x y v u Q I rx ry h
  obtain ⟨l, b, xs, zs, e1, e2, h1, h2, h3, q⟩ := h
  exact op_cat pins s σ H x y v u Q I rx ry ⟨l, b, xs, zs, e1, e2, h1, h2, h3, fun p hp => q p _ hp (Same.new hp) upd_same⟩
end
section
variable {X : Cx}
theorem call_tupleN : CallR X (.type "tuple") (fun xs H Q => ∃ p ys, xs = [.ref p] ∧ SqL X.K H p ys ∧ ∀ l H', H l = none → Same H H' → H' l = some (.tup ys) → Q (.ref l) H') := by
  intro pins s σ H xs us Q I r h
  obtain ⟨p, ys, e, hs, q⟩ := h
  exact call_tuple_of pins s σ H xs us Q I r ⟨p, ys, e, .inl ⟨hs, fun l hl => q l _ hl (Same.new hl) upd_same⟩⟩
theorem call_listN : CallR X (.type "list") (fun xs H Q => ∃ p ys, xs = [.ref p] ∧ (SqL X.K H p ys ∨ SqT X.K H p ys) ∧ ∀ l H', H l = none → Same H H' → H' l = some (.lst ys) → Q (.ref l) H') := by
  intro pins s σ H xs us Q I r h
  obtain ⟨p, ys, e, hs, q⟩ := h
  exact call_list_of pins s σ H xs us Q I r ⟨p, ys, e, hs, fun l hl => q l _ hl (Same.new hl) upd_same⟩
end
/-! ### comprehensions over a list that is told by other things -/
theorem lc_filtL {α : Type} {K : PySem.W.Frag} {a : Addr} {ts : List α} (g h : α → V) (b : α → Bool) {tt : TT} {te : TE} {j : Nat} {vs : List Nat} {σ : L2.St} {H : Hp} {D : Addr} {Qd : Hp → Prop}
    (ha : SqL K H a (ts.map g)) (hn : ts.length ≤ 100000) (hD : H D = none) (hw : ∀ x, wipe ((wipe σ vs).set j (some x)) vs = wipe σ vs)
    (ht : ∀ t ∈ ts, ∀ H1, Same H H1 → ∀ Q : Bool → Hp → Prop, (∀ H2, Same H1 H2 → Q (b t) H2) → tt ((wipe σ vs).set j (some (g t))) H1 Q)
    (he : ∀ t ∈ ts, b t = true → ∀ H1, Same H H1 → ∀ Q : VK, (∀ H2, Same H1 H2 → Q (h t) H2) → te ((wipe σ vs).set j (some (g t))) H1 Q)
    (hd : ∀ H', Same H H' → H' D = some (.lst ((ts.filter b).map h)) → Qd H') :
    ∃ W : Nat → Nat → Hp → Prop, (∃ m, W 0 m (upd H D (.lst []))) ∧ ∀ i m H, W i m H →
      ((Itl K a).stop i H ∧ Qd H) ∨ ((Itl K a).go i H ∧ ∃ Nx : Hp → Prop, (∀ H', Nx H' → ∃ m', m' < m ∧ W (i + 1) m' H') ∧ ∀ x H', (Itl K a).yld i H x H' → gName j x (wipe σ vs) H' fun σ2 H2 => wipe σ2 vs = wipe σ vs ∧ tt σ2 H2 fun b H3 =>
        if b = true then te σ2 H3 fun y H4 => ∃ acc, H4 D = some (.lst acc) ∧ acc.length < sizeLine ∧ Nx (upd H4 D (.lst (acc ++ [y]))) else Nx H3) := by
  refine lc_it (tt := tt) (walk_list (xs := ts.map g)) (fun i H' => Same H H' ∧ H' D = some (.lst (((ts.take i).filter b).map h))) ⟨Same.new hD, upd_same⟩ (fun i H' _ p => Same.sqL p.1 ha) ?_ (fun H' p => hd H' p.1 ?_)
  · rintro i x H1 H2 hi p ⟨rfl, hx⟩
    rw [List.getElem?_map] at hx
    obtain ⟨t, hti, rfl⟩ := Option.map_eq_some_iff.mp hx
    have hm := List.mem_of_getElem? hti
    have hi2 : i < ts.length := by rw [List.length_map] at hi; exact hi
    have e1 : ts.take (i + 1) = ts.take i ++ [t] := by rw [List.take_add_one, hti] <;> rfl
    refine ⟨hw _, ht t hm _ p.1 _ fun H3 s3 => ?_⟩
    cases hb : b t with
    | false =>
      refine iteF ⟨Same.tr p.1 s3, ?_⟩
      rw [e1, List.filter_append, List.filter_cons_of_neg (by rw [hb]; decide), List.filter_nil, List.append_nil]
      exact s3 _ _ p.2
    | true =>
      refine iteT (he t hm hb H3 (Same.tr p.1 s3) _ fun H4 s4 => ?_)
      refine ⟨_, s4 _ _ (s3 _ _ p.2), ?_, Same.chg (Same.tr (Same.tr p.1 s3) s4) hD, ?_⟩
      · rw [List.length_map]
        have l1 := List.length_filter_le b (ts.take i)
        rw [List.length_take] at l1
        exact Nat.lt_of_le_of_lt l1 (Nat.lt_of_lt_of_le (by omega : min i ts.length < 100000) (by decide))
      · rw [upd_same, e1, List.filter_append, List.filter_cons_of_pos hb, List.filter_nil, List.map_append] <;> rfl
  · rw [show (List.map g ts).length = ts.length from List.length_map _, List.take_length] at p
    exact p.2
theorem lc_mapL {α : Type} {K : PySem.W.Frag} {a : Addr} {ts : List α} (g h : α → V) {te : TE} {j : Nat} {vs : List Nat} {σ : L2.St} {H : Hp} {D : Addr} {Qd : Hp → Prop}
    (ha : SqL K H a (ts.map g)) (hn : ts.length ≤ 100000) (hD : H D = none) (hw : ∀ x, wipe ((wipe σ vs).set j (some x)) vs = wipe σ vs)
    (he : ∀ t ∈ ts, ∀ H1, Same H H1 → ∀ Q : VK, (∀ H2, Same H1 H2 → Q (h t) H2) → te ((wipe σ vs).set j (some (g t))) H1 Q)
    (hd : ∀ H', Same H H' → H' D = some (.lst (ts.map h)) → Qd H') :
    ∃ W : Nat → Nat → Hp → Prop, (∃ m, W 0 m (upd H D (.lst []))) ∧ ∀ i m H, W i m H →
      ((Itl K a).stop i H ∧ Qd H) ∨ ((Itl K a).go i H ∧ ∃ Nx : Hp → Prop, (∀ H', Nx H' → ∃ m', m' < m ∧ W (i + 1) m' H') ∧ ∀ x H', (Itl K a).yld i H x H' → gName j x (wipe σ vs) H' fun σ2 H2 => wipe σ2 vs = wipe σ vs ∧ tYes σ2 H2 fun b H3 =>
        if b = true then te σ2 H3 fun y H4 => ∃ acc, H4 D = some (.lst acc) ∧ acc.length < sizeLine ∧ Nx (upd H4 D (.lst (acc ++ [y]))) else Nx H3) :=
  lc_filtL (tt := tYes) g h (fun _ => true) ha hn hD hw (fun t _ H1 _ Q hq => hq H1 Same.rfl') (fun t ht _ => he t ht) (fun H' s1 hh => hd H' s1 (by rw [hh, List.filter_eq_self.mpr (fun _ _ => rfl)]))
end G

namespace G
open PySem PySem.Spec PyProof.Rows L2
def top (i : Nat) : Stmt := PySem.Challenge.pw_mapsizes_k21_steps_known.main.body.getD i (.Pass ⟨0, 0, 0, 0⟩)
abbrev s_is_integer : Stmt := top 12
abbrev s_is_name : Stmt := top 13
abbrev s_is_mark : Stmt := top 14
abbrev s_least_shift : Stmt := top 15
abbrev s_parts_of : Stmt := top 16
abbrev s_pair_of : Stmt := top 17
abbrev s_is_place : Stmt := top 18
abbrev s_Place___init__ : Stmt := inClass (top 19) 0
abbrev s_fits : Stmt := top 22
abbrev s_is_step : Stmt := top 23
abbrev s__law_cell : Stmt := top 25
abbrev s__law_box : Stmt := top 26
abbrev s__law_take : Stmt := top 27
abbrev s__law_word : Stmt := top 28
abbrev s__law_item : Stmt := top 29
abbrev s__law_right : Stmt := top 30
abbrev s_law : Stmt := top 31
abbrev s_InvalidInteger___init__ : Stmt := inClass (top 2) 0
abbrev s_InvalidName___init__ : Stmt := inClass (top 3) 0
abbrev s_Place_base : Stmt := inClass (top 19) 2
abbrev s_Place_shift : Stmt := inClass (top 19) 3
def d_is_integer : He.DefD := ⟨("is_integer", none), "is_integer", "is_integer", defArgs s_is_integer, defBody s_is_integer, defScope s_is_integer, [], []⟩
def d_is_name : He.DefD := ⟨("is_name", none), "is_name", "is_name", defArgs s_is_name, defBody s_is_name, defScope s_is_name, [], []⟩
def d_is_mark : He.DefD := ⟨("is_mark", none), "is_mark", "is_mark", defArgs s_is_mark, defBody s_is_mark, defScope s_is_mark, [], []⟩
def d_least_shift : He.DefD := ⟨("least_shift", none), "least_shift", "least_shift", defArgs s_least_shift, defBody s_least_shift, defScope s_least_shift, [], []⟩
def d_parts_of : He.DefD := ⟨("parts_of", none), "parts_of", "parts_of", defArgs s_parts_of, defBody s_parts_of, defScope s_parts_of, [], []⟩
def d_pair_of : He.DefD := ⟨("pair_of", none), "pair_of", "pair_of", defArgs s_pair_of, defBody s_pair_of, defScope s_pair_of, [], []⟩
def d_is_place : He.DefD := ⟨("is_place", none), "is_place", "is_place", defArgs s_is_place, defBody s_is_place, defScope s_is_place, [], []⟩
def d_Place___init__ : He.DefD := ⟨("Place", some "__init__"), "__init__", "Place.__init__", defArgs s_Place___init__, defBody s_Place___init__, defScope s_Place___init__, [.str ""], [("shift", .int 0)]⟩
def d_fits : He.DefD := ⟨("fits", none), "fits", "fits", defArgs s_fits, defBody s_fits, defScope s_fits, [], []⟩
def d_is_step : He.DefD := ⟨("is_step", none), "is_step", "is_step", defArgs s_is_step, defBody s_is_step, defScope s_is_step, [], []⟩
def d__law_cell : He.DefD := ⟨("_law_cell", none), "_law_cell", "_law_cell", defArgs s__law_cell, defBody s__law_cell, defScope s__law_cell, [], []⟩
def d__law_box : He.DefD := ⟨("_law_box", none), "_law_box", "_law_box", defArgs s__law_box, defBody s__law_box, defScope s__law_box, [], []⟩
def d__law_take : He.DefD := ⟨("_law_take", none), "_law_take", "_law_take", defArgs s__law_take, defBody s__law_take, defScope s__law_take, [], []⟩
def d__law_word : He.DefD := ⟨("_law_word", none), "_law_word", "_law_word", defArgs s__law_word, defBody s__law_word, defScope s__law_word, [], []⟩
def d__law_item : He.DefD := ⟨("_law_item", none), "_law_item", "_law_item", defArgs s__law_item, defBody s__law_item, defScope s__law_item, [], []⟩
def d__law_right : He.DefD := ⟨("_law_right", none), "_law_right", "_law_right", defArgs s__law_right, defBody s__law_right, defScope s__law_right, [], []⟩
def d_law : He.DefD := ⟨("law", none), "law", "law", defArgs s_law, defBody s_law, defScope s_law, [], []⟩
def fn : List He.DefD := [d_is_integer, d_is_name, d_is_mark, d_least_shift, d_parts_of, d_pair_of, d_is_place, d_Place___init__, d_fits, d_is_step, d__law_cell, d__law_box, d__law_take, d__law_word, d__law_item, d__law_right, d_law]
def fa : List He.Fa := ([.glo "is_integer", .glo "is_name", .glo "is_mark", .glo "least_shift", .glo "parts_of", .glo "pair_of", .glo "is_place", .glo "fits", .glo "is_step", .glo "_law_cell", .glo "_law_box", .glo "_law_take", .glo "_law_word", .glo "_law_item", .glo "_law_right", .glo "law", .glo "Place", .glo "RESERVED", .glo "SIGNS", .glo "FORMS", .glo "InvalidInteger", .glo "InvalidName", .free "isinstance", .free "int", .free "bool", .free "str", .free "tuple", .free "list", .free "len", .free "all"] : List He.Fa) ++ ([.free "max", .free "min", .free "range", .free "zip", .int "MOST_LETTERS" 6, .int "MOST_SHIFT" 3, .str "LETTERS" "abcdefghijklmnopqrstuvwxyz", .cls "Place", .noat "Place" "own_base", .noat "Place" "own_shift", .mkr "Place"] : List He.Fa)
def x_InvalidInteger : XnD := ⟨initAt "InvalidInteger", "__init__", ("InvalidInteger" : Str) ++ ".__init__", s_InvalidInteger___init__⟩
def x_InvalidName : XnD := ⟨initAt "InvalidName", "__init__", ("InvalidName" : Str) ++ ".__init__", s_InvalidName___init__⟩
def x_Place_base : XnD := ⟨getterAt "Place" "base", "base", "Place.base", s_Place_base⟩
def x_Place_shift : XnD := ⟨getterAt "Place" "shift", "shift", "Place.shift", s_Place_shift⟩
def xs : List XnD := [x_InvalidInteger, x_InvalidName, x_Place_base, x_Place_shift]
def ts : List He.Tab := [(fun K => He.ga K "SIGNS", ["+", "-"]), (fun K => He.ga K "FORMS", ["cut", "write", "read", "look", "store", "test", "sync", "lock", "unlock"])]
def exs (K : PySem.W.Frag) : List Bool := [xcB K "InvalidInteger" ["value"] "ValueError" "ValueError.__new__" "ValueError.__init__" [.type "ValueError", .type "Exception", .type "BaseException", .type "object"],
  xcB K "InvalidName" ["value"] "ValueError" "ValueError.__new__" "ValueError.__init__" [.type "ValueError", .type "Exception", .type "BaseException", .type "object"],
  propB K "Place" "base" && funB K (getterAt "Place" "base" K) "Place.base",
  propB K "Place" "shift" && funB K (getterAt "Place" "shift" K) "Place.shift",
  He.tupB K "RESERVED" [.str "old", .str "zero", .str "end", .str "fails", .str "more", .str "done", .str "none"],
  insB K (He.ga K "Place"),
  onlyB K (He.ga K "SIGNS") ["+", "-"] && He.valsB K (He.ga K "SIGNS") [("+", .int 1), ("-", .int (-1))],
  (["NoneType", "bool", "int", "str", "list", "tuple", "dict"] : List String).all fun b => decide (PySem.W.kitOne K (.type b) (.ref (He.ga K "Place")) = some false),
  onlyB K (He.ga K "FORMS") ["cut", "write", "read", "look", "store", "test", "sync", "lock", "unlock"] && He.valsB K (He.ga K "FORMS") [("cut", .str "p"), ("write", .str "ppm"), ("read", .str "p"), ("look", .str "p"), ("store", .str "pm"), ("test", .str "p"), ("sync", .str "pp"), ("lock", .str "n"), ("unlock", .str "n")]]
def ex (K : PySem.W.Frag) : Bool := (exs K).all id
theorem exAt {K : PySem.W.Frag} (h : ex K = true) (i : Nat) {b : Bool} (e : (exs K)[i]? = some b) : b = true := List.all_eq_true.mp h b (List.mem_of_getElem? e)
structure Tx (w : World) (K : PySem.W.Frag) (mg : Str → Option Value) : Prop where
  g_is_integer : mg "is_integer" = some (.ref (He.ga K "is_integer"))
  g_is_name : mg "is_name" = some (.ref (He.ga K "is_name"))
  g_is_mark : mg "is_mark" = some (.ref (He.ga K "is_mark"))
  g_least_shift : mg "least_shift" = some (.ref (He.ga K "least_shift"))
  g_parts_of : mg "parts_of" = some (.ref (He.ga K "parts_of"))
  g_pair_of : mg "pair_of" = some (.ref (He.ga K "pair_of"))
  g_is_place : mg "is_place" = some (.ref (He.ga K "is_place"))
  g_fits : mg "fits" = some (.ref (He.ga K "fits"))
  g_is_step : mg "is_step" = some (.ref (He.ga K "is_step"))
  g__law_cell : mg "_law_cell" = some (.ref (He.ga K "_law_cell"))
  g__law_box : mg "_law_box" = some (.ref (He.ga K "_law_box"))
  g__law_take : mg "_law_take" = some (.ref (He.ga K "_law_take"))
  g__law_word : mg "_law_word" = some (.ref (He.ga K "_law_word"))
  g__law_item : mg "_law_item" = some (.ref (He.ga K "_law_item"))
  g__law_right : mg "_law_right" = some (.ref (He.ga K "_law_right"))
  g_law : mg "law" = some (.ref (He.ga K "law"))
  g_Place : mg "Place" = some (.ref (He.ga K "Place"))
  g_RESERVED : mg "RESERVED" = some (.ref (He.ga K "RESERVED"))
  g_SIGNS : mg "SIGNS" = some (.ref (He.ga K "SIGNS"))
  g_FORMS : mg "FORMS" = some (.ref (He.ga K "FORMS"))
  g_InvalidInteger : mg "InvalidInteger" = some (.ref (He.ga K "InvalidInteger"))
  g_InvalidName : mg "InvalidName" = some (.ref (He.ga K "InvalidName"))
  f_isinstance : mg "isinstance" = none
  f_int : mg "int" = none
  f_bool : mg "bool" = none
  f_str : mg "str" = none
  f_tuple : mg "tuple" = none
  f_list : mg "list" = none
  f_len : mg "len" = none
  f_all : mg "all" = none
  f_max : mg "max" = none
  f_min : mg "min" = none
  f_range : mg "range" = none
  f_zip : mg "zip" = none
  c_MOST_LETTERS : ∃ u, mg "MOST_LETTERS" = some u ∧ RelV (.int 6) u
  c_MOST_SHIFT : ∃ u, mg "MOST_SHIFT" = some u ∧ RelV (.int 3) u
  c_LETTERS : ∃ u, mg "LETTERS" = some u ∧ RelV (.str "abcdefghijklmnopqrstuvwxyz") u
  c_RESERVED : ∃ u, mg "RESERVED" = some u ∧ RelV (.ref (He.ga K "RESERVED")) u
  c_SIGNS : ∃ u, mg "SIGNS" = some u ∧ RelV (.ref (He.ga K "SIGNS")) u
  c_FORMS : ∃ u, mg "FORMS" = some u ∧ RelV (.ref (He.ga K "FORMS")) u
  d_is_integer : ∃ fd, FunD K d_is_integer.name d_is_integer.qual d_is_integer.params d_is_integer.body d_is_integer.scope (d_is_integer.dvs K) (d_is_integer.kws K) (He.fAd K d_is_integer.at_) fd
  d_is_name : ∃ fd, FunD K d_is_name.name d_is_name.qual d_is_name.params d_is_name.body d_is_name.scope (d_is_name.dvs K) (d_is_name.kws K) (He.fAd K d_is_name.at_) fd
  d_is_mark : ∃ fd, FunD K d_is_mark.name d_is_mark.qual d_is_mark.params d_is_mark.body d_is_mark.scope (d_is_mark.dvs K) (d_is_mark.kws K) (He.fAd K d_is_mark.at_) fd
  d_least_shift : ∃ fd, FunD K d_least_shift.name d_least_shift.qual d_least_shift.params d_least_shift.body d_least_shift.scope (d_least_shift.dvs K) (d_least_shift.kws K) (He.fAd K d_least_shift.at_) fd
  d_parts_of : ∃ fd, FunD K d_parts_of.name d_parts_of.qual d_parts_of.params d_parts_of.body d_parts_of.scope (d_parts_of.dvs K) (d_parts_of.kws K) (He.fAd K d_parts_of.at_) fd
  d_pair_of : ∃ fd, FunD K d_pair_of.name d_pair_of.qual d_pair_of.params d_pair_of.body d_pair_of.scope (d_pair_of.dvs K) (d_pair_of.kws K) (He.fAd K d_pair_of.at_) fd
  d_is_place : ∃ fd, FunD K d_is_place.name d_is_place.qual d_is_place.params d_is_place.body d_is_place.scope (d_is_place.dvs K) (d_is_place.kws K) (He.fAd K d_is_place.at_) fd
  d_Place___init__ : ∃ fd, FunD K d_Place___init__.name d_Place___init__.qual d_Place___init__.params d_Place___init__.body d_Place___init__.scope (d_Place___init__.dvs K) (d_Place___init__.kws K) (He.fAd K d_Place___init__.at_) fd
  d_fits : ∃ fd, FunD K d_fits.name d_fits.qual d_fits.params d_fits.body d_fits.scope (d_fits.dvs K) (d_fits.kws K) (He.fAd K d_fits.at_) fd
  d_is_step : ∃ fd, FunD K d_is_step.name d_is_step.qual d_is_step.params d_is_step.body d_is_step.scope (d_is_step.dvs K) (d_is_step.kws K) (He.fAd K d_is_step.at_) fd
  d__law_cell : ∃ fd, FunD K d__law_cell.name d__law_cell.qual d__law_cell.params d__law_cell.body d__law_cell.scope (d__law_cell.dvs K) (d__law_cell.kws K) (He.fAd K d__law_cell.at_) fd
  d__law_box : ∃ fd, FunD K d__law_box.name d__law_box.qual d__law_box.params d__law_box.body d__law_box.scope (d__law_box.dvs K) (d__law_box.kws K) (He.fAd K d__law_box.at_) fd
  d__law_take : ∃ fd, FunD K d__law_take.name d__law_take.qual d__law_take.params d__law_take.body d__law_take.scope (d__law_take.dvs K) (d__law_take.kws K) (He.fAd K d__law_take.at_) fd
  d__law_word : ∃ fd, FunD K d__law_word.name d__law_word.qual d__law_word.params d__law_word.body d__law_word.scope (d__law_word.dvs K) (d__law_word.kws K) (He.fAd K d__law_word.at_) fd
  d__law_item : ∃ fd, FunD K d__law_item.name d__law_item.qual d__law_item.params d__law_item.body d__law_item.scope (d__law_item.dvs K) (d__law_item.kws K) (He.fAd K d__law_item.at_) fd
  d__law_right : ∃ fd, FunD K d__law_right.name d__law_right.qual d__law_right.params d__law_right.body d__law_right.scope (d__law_right.dvs K) (d__law_right.kws K) (He.fAd K d__law_right.at_) fd
  d_law : ∃ fd, FunD K d_law.name d_law.qual d_law.params d_law.body d_law.scope (d_law.dvs K) (d_law.kws K) (He.fAd K d_law.at_) fd
  e_InvalidInteger : Ex K mg "InvalidInteger" ["value"] s_InvalidInteger___init__ "ValueError" "ValueError.__new__" "ValueError.__init__" [.type "ValueError", .type "Exception", .type "BaseException", .type "object"]
  e_InvalidName : Ex K mg "InvalidName" ["value"] s_InvalidName___init__ "ValueError" "ValueError.__new__" "ValueError.__init__" [.type "ValueError", .type "Exception", .type "BaseException", .type "object"]
  p_Place_base : PropOf K (He.ga K "Place") "base" (He.ma K (He.ga K "Place") "base") (getterAt "Place" "base" K)
  d_Place_base : ∃ fd, FunD K x_Place_base.nm x_Place_base.ql (defArgs x_Place_base.st) (defBody x_Place_base.st) (defScope x_Place_base.st) [] [] (x_Place_base.at_ K) fd
  p_Place_shift : PropOf K (He.ga K "Place") "shift" (He.ma K (He.ga K "Place") "shift") (getterAt "Place" "shift" K)
  d_Place_shift : ∃ fd, FunD K x_Place_shift.nm x_Place_shift.ql (defArgs x_Place_shift.st) (defBody x_Place_shift.st) (defScope x_Place_shift.st) [] [] (x_Place_shift.at_ K) fd
  k_SIGNS : ∃ es n, KDict K w (He.ga K "SIGNS") es n
  k_FORMS : ∃ es n, KDict K w (He.ga K "FORMS") es n
  cl_Place : Cls K (He.ga K "Place")
  nb_Place : NoAttr K (He.ga K "Place") "own_base"
  ns_Place : NoAttr K (He.ga K "Place") "own_shift"
  mk_Place : Mk K (He.ga K "Place") (He.ma K (He.ga K "Place") "__init__")
  t_RES : ∀ H : Hp, SqT K H (He.ga K "RESERVED") [V.str "old", V.str "zero", V.str "end", V.str "fails", V.str "more", V.str "done", V.str "none"]
  i_Place : insB K (He.ga K "Place") = true
  v_SIGNS : onlyB K (He.ga K "SIGNS") ["+", "-"] = true ∧ He.valsB K (He.ga K "SIGNS") [("+", .int 1), ("-", .int (-1))] = true
  kt_Place : ∀ b ∈ (["NoneType", "bool", "int", "str", "list", "tuple", "dict"] : List String), PySem.W.kitOne K (.type b) (.ref (He.ga K "Place")) = some false
  v_FORMS : onlyB K (He.ga K "FORMS") ["cut", "write", "read", "look", "store", "test", "sync", "lock", "unlock"] = true ∧ He.valsB K (He.ga K "FORMS") [("cut", .str "p"), ("write", .str "ppm"), ("read", .str "p"), ("look", .str "p"), ("store", .str "pm"), ("test", .str "p"), ("sync", .str "pp"), ("lock", .str "n"), ("unlock", .str "n")] = true
theorem Y_InvalidInteger (f : Addr) : Ini1 f (("InvalidInteger" : Str) ++ ".__init__") (defArgs s_InvalidInteger___init__) (defBody s_InvalidInteger___init__) (defScope s_InvalidInteger___init__) "value" where
  ex := ⟨_, _, _, _, _, _, _, _, _, _, _, _, _, rfl, fun _ _ _ => rfl, fun _ _ _ => rfl, fun _ _ _ => rfl⟩
  bind := fun _ _ _ _ _ _ _ _ _ => rfl
  par := ⟨_, rfl, rfl⟩
  cell := by decide +kernel
  self := rfl
  fl := rfl
  sup := rfl
  cls := rfl
  kind := rfl
  co := rfl
  gen := rfl
  nef := by decide
  dbg := by decide
theorem Y_InvalidName (f : Addr) : Ini1 f (("InvalidName" : Str) ++ ".__init__") (defArgs s_InvalidName___init__) (defBody s_InvalidName___init__) (defScope s_InvalidName___init__) "value" where
  ex := ⟨_, _, _, _, _, _, _, _, _, _, _, _, _, rfl, fun _ _ _ => rfl, fun _ _ _ => rfl, fun _ _ _ => rfl⟩
  bind := fun _ _ _ _ _ _ _ _ _ => rfl
  par := ⟨_, rfl, rfl⟩
  cell := by decide +kernel
  self := rfl
  fl := rfl
  sup := rfl
  cls := rfl
  kind := rfl
  co := rfl
  gen := rfl
  nef := by decide
  dbg := by decide
end G
namespace G
open PySem PySem.Spec PyProof.Rows L2
/-! ### places.py: the mirror and the promises -/
def inR : V → Int → Int → Bool
  | .int i, lo, hi => decide (lo ≤ i) && decide (i ≤ hi)
  | _, _, _ => false
theorem inR_int (i lo hi : Int) : inR (.int i) lo hi = (decide (lo ≤ i) && decide (i ≤ hi)) := rfl
def sp_is_integer (K : PySem.W.Frag) : Sp := fun vs H Q _ => vs.length = 3 ∧ ∃ (v : V) (lo hi : Int), vs = [v, .int lo, .int hi] ∧ Ask K H v ∧ Q (.bl (inR v lo hi)) H
def ABC : Str := "abcdefghijklmnopqrstuvwxyz"
/-- a name: one to six letters -/
def nameS (x : Str) : Bool := (decide (1 ≤ (x.length : Int)) && decide ((x.length : Int) ≤ 6)) && x.cps.toList.all fun c => decide (c ∈ ABC.cps.toList)
theorem nameS_len {x : Str} (h : nameS x = true) : x.length ≤ 6 := by
  unfold nameS at h
  simp only [Bool.and_eq_true, decide_eq_true_eq] at h
  omega
theorem nameS_pos {x : Str} (h : nameS x = true) : 1 ≤ x.length := by
  unfold nameS at h
  simp only [Bool.and_eq_true, decide_eq_true_eq] at h
  omega
def nameV : V → Bool
  | .str x => nameS x
  | _ => false
/-- a value that the defs are asked of: its kind is known, a text is not too long -/
def Okv (K : PySem.W.Frag) (H : Hp) (v : V) : Prop := Ask K H v ∧ ∀ x, v = .str x → x.length ≤ 100000
theorem Okv.same {K : PySem.W.Frag} {H H' : Hp} {v : V} (s : Same H H') (h : Okv K H v) : Okv K H' v := ⟨h.1.same s, h.2⟩
def sp_is_name (K : PySem.W.Frag) : Sp := fun vs H Q _ => vs.length = 1 ∧ ∃ v, vs = [v] ∧ Okv K H v ∧ ∀ H', Same H H' → Q (.bl (nameV v)) H'
def RESV : List V := [.str "old", .str "zero", .str "end", .str "fails", .str "more", .str "done", .str "none"]
def markV (v : V) : Bool := nameV v && !inV v RESV
def sp_is_mark (K : PySem.W.Frag) : Sp := fun vs H Q _ => vs.length = 1 ∧ ∃ v, vs = [v] ∧ Okv K H v ∧ ∀ H', Same H H' → Q (.bl (markV v)) H'
def leastS (x : Str) : Int := if x = "" then 0 else -3
def sp_least_shift : Sp := fun vs H Q _ => vs.length = 1 ∧ ∃ x : Str, vs = [.str x] ∧ Q (.int (leastS x)) H
/-- a place's fields -/
def pfs (b : Str) (i : Int) : List (Str × V) := putF "own_shift" (.int i) (putF "own_base" (.str b) [])
theorem pfs_base (b : Str) (i : Int) : (pfs b i).lookup ("own_base" : Str) = some (.str b) := by
  unfold pfs
  rw [lookup_putF, if_neg (by decide), lookup_putF, if_pos rfl]
theorem pfs_shift (b : Str) (i : Int) : (pfs b i).lookup ("own_shift" : Str) = some (.int i) := by
  unfold pfs
  rw [lookup_putF, if_pos rfl]
theorem pfs_no (b : Str) (i : Int) {m : Str} (h1 : ¬ m = "own_shift") (h2 : ¬ m = "own_base") : (pfs b i).lookup m = none := by
  unfold pfs
  rw [lookup_putF, if_neg h1, lookup_putF, if_neg h2] <;> rfl
def okB (b : Str) : Bool := decide (b = "") || nameS b
/-- a place stands at v -/
def PlAt (K : PySem.W.Frag) (H : Hp) (v : V) (b : Str) (i : Int) : Prop := ∃ a dx, v = .ref a ∧ H a = some (.ins (He.ga K "Place") dx (pfs b i))
theorem PlAt.same {K : PySem.W.Frag} {H H' : Hp} {v : V} {b : Str} {i : Int} (s : Same H H') (h : PlAt K H v b i) : PlAt K H' v b i := by
  obtain ⟨a, dx, e, h⟩ := h
  exact ⟨a, dx, e, s _ _ h⟩
/-- an exception of the class x with the field value v is out -/
def Out (K : PySem.W.Frag) (E : XK) (x : Str) (v : V) (H : Hp) : Prop := ∀ (d : Addr) (H' : Hp), H d = none → Same H H' → H' d = some (.xd [("value", v)]) → E (.ref (He.ga K x)) (some d) H'
/-- Place.__init__ -/
def sp_init (K : PySem.W.Frag) : Sp := fun vs H Q E => vs.length = 3 ∧ ∃ (x dx : Addr) (b : Str) (v : V), vs = [.ref x, .str b, v] ∧ H x = some (.ins (He.ga K "Place") dx []) ∧ Okv K H v ∧ b.length ≤ 100000 ∧
  (okB b = false → Out K E "InvalidName" (.str b) H) ∧ (okB b = true → inR v (leastS b) 3 = false → Out K E "InvalidInteger" v H) ∧
  (∀ i, okB b = true → v = .int i → inR v (leastS b) 3 = true → ∀ H', (∀ a o, H a = some o → a ≠ x → H' a = some o) → H' x = some (.ins (He.ga K "Place") dx (pfs b i)) → Q .non H')
theorem inR_form {v : V} {lo hi : Int} (h : inR v lo hi = true) : ∃ i, v = .int i := by
  cases v with
  | int i => exact ⟨i, rfl⟩
  | _ => exact nomatch h
/-! #### texts of places -/
def last2 (x : Str) : Nat := x.cps.toList.getD (x.length - 2) 0
def last1 (x : Str) : Nat := x.cps.toList.getD (x.length - 1) 0
def cut2 (x : Str) : Str := cutS x none (some (-2))
def digS (c : Nat) : Int := (c : Int) - 48
def partsS (x : Str) : Option (Str × Int) :=
  if x.length = 1 ∧ last1 x ∈ [48, 49, 50, 51] then some ("", digS (last1 x))
  else if nameS x = true then some (x, 0)
  else if 2 < x.length ∧ last2 x ∈ [43, 45] ∧ last1 x ∈ [49, 50, 51] ∧ nameS (cut2 x) = true then some (cut2 x, (if last2 x = 43 then 1 else -1) * digS (last1 x))
  else none
/-- the answer None or a pair -/
def PairQ (H : Hp) (Q : VK) : Option (Str × Int) → Prop
  | none => ∀ H', Same H H' → Q .non H'
  | some (b, i) => ∀ p H', H p = none → Same H H' → H' p = some (.tup [.str b, .int i]) → Q (.ref p) H'
def sp_parts : Sp := fun vs H Q _ => vs.length = 1 ∧ ∃ x : Str, vs = [.str x] ∧ x.length ≤ 100000 ∧ PairQ H Q (partsS x)
end G
namespace G
open PySem PySem.Spec PyProof.Rows L2
/-! #### facts about the texts -/
theorem len_cps (x : Str) : x.cps.toList.length = x.length := Array.length_toList
theorem str1 {x : Str} (h : x.length = 1) : x = ⟨#[last1 x]⟩ := by
  obtain ⟨⟨l⟩⟩ := x
  match l, h with
  | [c], _ => rfl
theorem atI_last1 {x : Str} (h : 1 ≤ x.length) : atI x.cps.toList (-1) = some (last1 x) := by
  have hl := len_cps x
  unfold atI last1
  have e : ixN x.cps.toList.length (-1) = some (x.length - 1) := by
    unfold ixN
    rw [hl, if_neg (by decide), if_pos (by omega)]
    congr 1
    omega
  rw [e]
  show x.cps.toList[x.length - 1]? = _
  rw [List.getD_eq_getElem?_getD, List.getElem?_eq_getElem (by omega)]
  rfl
theorem atI_last2 {x : Str} (h : 2 ≤ x.length) : atI x.cps.toList (-2) = some (last2 x) := by
  have hl := len_cps x
  unfold atI last2
  have e : ixN x.cps.toList.length (-2) = some (x.length - 2) := by
    unfold ixN
    rw [hl, if_neg (by decide), if_pos (by omega)]
    congr 1
    omega
  rw [e]
  show x.cps.toList[x.length - 2]? = _
  rw [List.getD_eq_getElem?_getD, List.getElem?_eq_getElem (by omega)]
  rfl
theorem int_dig {c : Nat} (h : c ∈ [48, 49, 50, 51]) : PySem.intText? ⟨#[c]⟩ = some (digS c) := by
  simp only [List.mem_cons, List.not_mem_nil, or_false] at h
  rcases h with rfl | rfl | rfl | rfl <;> decide +kernel
theorem dig0123 (c : Nat) : decide (c ∈ (Str.ofString "0123").cps.toList) = decide (c ∈ [48, 49, 50, 51]) := by
  rw [show (Str.ofString "0123").cps.toList = [48, 49, 50, 51] by decide +kernel]
theorem dig123 (c : Nat) : decide (c ∈ (Str.ofString "123").cps.toList) = decide (c ∈ [49, 50, 51]) := by
  rw [show (Str.ofString "123").cps.toList = [49, 50, 51] by decide +kernel]
theorem sign_no {c : Nat} (h : ¬ c ∈ [43, 45]) : (⟨#[c]⟩ : Str) ∉ (["+", "-"] : List Str) := by
  intro z
  simp only [List.mem_cons, List.not_mem_nil, or_false] at z h
  rcases z with z | z
  · exact h (.inl (List.cons.inj ((congrArg (fun s : Str => s.cps.toList) z).trans (show (Str.ofString "+").cps.toList = [43] by decide +kernel))).1)
  · exact h (.inr (List.cons.inj ((congrArg (fun s : Str => s.cps.toList) z).trans (show (Str.ofString "-").cps.toList = [45] by decide +kernel))).1)
end G
namespace G
open PySem PySem.Spec PyProof.Rows L2
/-! #### what stands for a place -/
inductive Th where
  | pl (b : Str) (i : Int) | str (x : Str) | int (i : Int) | oth
def NoPl (K : PySem.W.Frag) (H : Hp) (v : V) : Prop := ∃ t, TyX K H v t ∧ PySem.W.kitOne K t (.ref (He.ga K "Place")) = some false
theorem NoPl.same {K : PySem.W.Frag} {H H' : Hp} {v : V} (s : Same H H') (h : NoPl K H v) : NoPl K H' v := by
  obtain ⟨t, a, b⟩ := h
  exact ⟨t, ty_same s a, b⟩
def ThAt (K : PySem.W.Frag) (H : Hp) (v : V) : Th → Prop
  | .pl b i => PlAt K H v b i
  | .str x => v = .str x ∧ x.length ≤ 100000
  | .int i => v = .int i
  | .oth => Ask K H v ∧ NoPl K H v ∧ (∀ i, v ≠ .int i) ∧ ∀ x, v ≠ .str x
theorem ThAt.same {K : PySem.W.Frag} {H H' : Hp} {v : V} {t : Th} (s : Same H H') (h : ThAt K H v t) : ThAt K H' v t := by
  cases t with
  | pl b i => exact PlAt.same s h
  | str x => exact h
  | int i => exact h
  | oth => exact ⟨h.1.same s, h.2.1.same s, h.2.2⟩
def pairT : Th → Option (Str × Int)
  | .pl b i => some (b, i)
  | .str x => partsS x
  | .int i => if 0 ≤ i ∧ i ≤ 3 then some ("", i) else none
  | .oth => none
def sp_pair (K : PySem.W.Frag) : Sp := fun vs H Q _ => vs.length = 1 ∧ ∃ (v : V) (t : Th), vs = [v] ∧ ThAt K H v t ∧ PairQ H Q (pairT t)
def sp_is_place (K : PySem.W.Frag) : Sp := fun vs H Q _ => vs.length = 1 ∧ ∃ (v : V) (t : Th), vs = [v] ∧ ThAt K H v t ∧ ∀ H', Same H H' → Q (.bl (pairT t).isSome) H'
def sp_get (K : PySem.W.Frag) (f : Str) : Sp := fun vs H Q _ => vs.length = 1 ∧ ∃ (a dx : Addr) (b : Str) (i : Int) (v : V), vs = [.ref a] ∧ H a = some (.ins (He.ga K "Place") dx (pfs b i)) ∧ (pfs b i).lookup f = some v ∧ Q v H
end G

namespace G
open PySem PySem.Spec PyProof.Rows L2
theorem sc_is_integer : FnScope ["value", "low", "high"] ["value", "low", "high"] (defScope s_is_integer) := ⟨rfl, rfl, rfl, by decide +kernel, rfl, by decide +kernel, by decide +kernel⟩
section
variable {P : Program} {w : World} {K : PySem.W.Frag} {mg : Str → Option Value} {base : Heap}
theorem fn_is_integer (T : Tx w K mg)  {fd : FuncData} (F : FunD K d_is_integer.name d_is_integer.qual d_is_integer.params d_is_integer.body d_is_integer.scope (d_is_integer.dvs K) (d_is_integer.kws K) (He.fAd K d_is_integer.at_) fd) : FnOk P w K mg base CX0 1 (He.fAd K d_is_integer.at_) fd ["value", "low", "high"] (sp_is_integer K) := by
  refine F.ok sc_is_integer (fun vs H Q E h => ?_) (fun cdv A outer s H vs Q E hr h => ?_)
  · exact lenOf h
  · have hu := hu_of hr
    have hu64 := hr.units
    have sz : 100000 ≤ sizeLine := by decide
    refine ⟨_, PSs.nox (pss_one (ps_ret (pe_and (pe_callB call_isi rfl T.f_isinstance PyProof.Rows.boot_isinstance (pa_cons (pv 0) (pa_cons (pe_bltn (v := .ty "int") rfl T.f_int PyProof.Rows.boot_int rfl) pa_nil))) (pe_and (pe_not (pe_callB call_isi rfl T.f_isinstance PyProof.Rows.boot_isinstance (pa_cons (pv 0) (pa_cons (pe_bltn (v := .ty "bool") rfl T.f_bool PyProof.Rows.boot_bool rfl) pa_nil)))) (pe_one (pe_chain op_le op_le (pv 1) (pv 0) (pv 2))))))), ?_⟩
    obtain ⟨_, v, lo, hi, rfl, ⟨t, ty, k1, k2, _⟩, q⟩ := h
    refine ⟨_, rfl, _, _, t, _, _, rfl, .ty _, ty, k1, _, rfl, ?_⟩
    cases v with
    | int i =>
      refine iteT ?_
      refine ⟨_, rfl, _, _, t, _, _, rfl, .ty _, ty, k2, _, rfl, _, rfl, ?_⟩
      refine iteT ?_
      refine ⟨_, rfl, _, rfl, _, _, rfl, rfl, _, rfl, ?_⟩
      refine ite2 (fun z => ?_) (fun z => ?_)
      · refine ⟨_, rfl, _, _, rfl, rfl, ?_⟩
        rw [inR_int, z, Bool.true_and] at q
        exact q
      · rw [inR_int, Bool.eq_false_iff.mpr z, Bool.false_and] at q
        exact q
    | bl b =>
      refine iteT ?_
      refine ⟨_, rfl, _, _, t, _, _, rfl, .ty _, ty, k2, _, rfl, _, rfl, ?_⟩
      exact iteF q
    | _ => exact iteF q
theorem cal_is_integer (T : Tx w K mg)  : C8.Cal P w K mg base 1 "is_integer" (sp_is_integer K) [] := by
  obtain ⟨fd, F⟩ := T.d_is_integer
  exact ⟨_, fd, ["value", "low", "high"], [], fn_is_integer T  F, T.g_is_integer, F.kp, FunD.bindsN (ps := ["value", "low", "high"]) F (fun _ _ _ _ _ _ us hl => match us, hl with | [_, _, _], _ => rfl), .nil⟩
theorem kw_is_integer (T : Tx w K mg) : CalK P w K mg base 1 "is_integer" (sp_is_integer K) 0 ["value", "low", "high"] (fun _ zs => zs) := by
  obtain ⟨fd, F⟩ := T.d_is_integer
  exact ⟨_, fd, ["value", "low", "high"], _, fn_is_integer T F, T.g_is_integer, F.kp, FunD.kbindsN (ps := ["value", "low", "high"]) F 0 ["value", "low", "high"] (fun _ zs => zs) (fun _ r => r) (fun _ _ _ _ _ _ us ws h1 h2 => match us, ws, h1, h2 with | [], [_, _, _], _, _ => rfl)⟩

end
end G
namespace G
open PySem PySem.Spec PyProof.Rows L2
theorem sc_is_name : FnScope ["value", "sign"] ["value"] (defScope s_is_name) := ⟨rfl, rfl, rfl, by decide +kernel, rfl, by decide +kernel, by decide +kernel⟩
section
variable {P : Program} {w : World} {K : PySem.W.Frag} {mg : Str → Option Value} {base : Heap}
theorem fn_is_name (T : Tx w K mg)  {fd : FuncData} (F : FunD K d_is_name.name d_is_name.qual d_is_name.params d_is_name.body d_is_name.scope (d_is_name.dvs K) (d_is_name.kws K) (He.fAd K d_is_name.at_) fd) : FnOk P w K mg base CX0 1 (He.fAd K d_is_name.at_) fd ["value"] (sp_is_name K) := by
  refine F.ok sc_is_name (fun vs H Q E h => ?_) (fun cdv A outer s H vs Q E hr h => ?_)
  · exact lenOf h
  · have hu := hu_of hr
    have hu64 := hr.units
    have sz : 100000 ≤ sizeLine := by decide
    refine ⟨_, PSs.nox (pss_cons (ps_if (PW.pt (pw_or (pt_not (pt_val (pe_callB call_isi rfl T.f_isinstance PyProof.Rows.boot_isinstance (pa_cons (pv 0) (pa_cons (pe_bltn (v := .ty "str") rfl T.f_str PyProof.Rows.boot_str rfl) pa_nil))))) (pw_or1 (pt_not (pt_chain op_le op_le pe_int (pe_callB call_len_str rfl T.f_len PySem.boot_len (pa_cons (pv 0) pa_nil)) (C8.pe_gc (v := .int 6) rfl T.c_MOST_LETTERS)))))) (pss_one (ps_ret pe_bl)) pss_nil)
      (pss_one (ps_ret (pe_callB (cr_all rfl) rfl T.f_all PyProof.Rows.boot_all (pa_cons (pe_lc (own := [("sign", 1)]) (g := gName 1) (tt := tYes) rfl sc_is_name.nd (pi_str (pv 0)) (blkOk_by (N := ["value", "sign"]) (sc := defScope s_is_name) (by decide +kernel)) (fun _ _ _ _ _ => (pg_name (i := 1) sc_is_name.nd rfl (Or.inl rfl))) (fun _ _ _ _ _ => pts_nil) (fun _ _ _ _ _ => (pe_cmpR op_in_sign (pv 1) (C8.pe_gc (v := .str "abcdefghijklmnopqrstuvwxyz") rfl T.c_LETTERS) rfl))) pa_nil))))), ?_⟩
    obtain ⟨_, v, rfl, ⟨⟨t, ty, _, _, k3⟩, hx⟩, q⟩ := h
    refine ⟨_, rfl, _, _, t, _, _, rfl, .ty _, ty, k3, _, rfl, ?_⟩
    cases v with
    | str x =>
      refine iteF ?_
      have hl := hx x rfl
      have hl2 : x.length ≤ sizeLine := Nat.le_trans hl (by decide)
      refine ⟨_, rfl, _, rfl, hl2, _, _, rfl, rfl, _, rfl, ?_⟩
      by_cases z1 : (1 : Int) ≤ (x.length : Int)
      · rw [decide_eq_true z1]
        refine iteT ?_
        refine ⟨_, _, rfl, rfl, _, rfl, ?_⟩
        by_cases z2 : (x.length : Int) ≤ 6
        · rw [decide_eq_true z2]
          refine iteF ?_
          refine ⟨_, rfl, _, rfl, fun D hD => lc_map walk_str (fun i => .str ⟨#[x.cps.getD i 0]⟩) (fun i => .bl (decide (x.cps.getD i 0 ∈ ABC.cps.toList))) ?_ ?_ hD ?_ ?_ ?_ ?_⟩
          · rintro i H1 y H2 hi ⟨e, c, hc, rfl⟩
            exact ⟨e, by rw [Array.getD_eq_getD_getElem?, hc]; rfl⟩
          · exact hl
          · intro _ _; trivial
          · intro y; rfl
          · intro i H1 hi s1 Q' hq
            exact ⟨_, rfl, _, _, rfl, rfl, hq H1 Same.rfl'⟩
          · intro H' s1 hL
            refine ⟨_, (List.range x.cps.size).map (fun i => decide (x.cps.getD i 0 ∈ ABC.cps.toList)), rfl, lst_sq (by rw [hL, List.map_map]; rfl), ?_⟩
            have e : ((List.range x.cps.size).map (fun i => decide (x.cps.getD i 0 ∈ ABC.cps.toList))).all id = nameS x := by
              unfold nameS
              rw [decide_eq_true z1, decide_eq_true z2, range_all x.cps 0 fun c => decide (c ∈ ABC.cps.toList)]
              rfl
            rw [e]
            exact q H' s1
        · rw [decide_eq_false z2]
          refine iteT ?_
          have e : nameV (.str x) = false := by
            show nameS x = false
            unfold nameS
            rw [decide_eq_false z2, Bool.and_false, Bool.false_and]
          rw [e] at q
          exact q H Same.rfl'
      · rw [decide_eq_false z1]
        walk_at "s"
        have e : nameV (.str x) = false := by
          show nameS x = false
          unfold nameS
          rw [decide_eq_false z1, Bool.false_and, Bool.false_and]
        rw [e] at q
        exact q H Same.rfl'
    | _ => exact iteT (iteT (q H Same.rfl'))
theorem cal_is_name (T : Tx w K mg)  : C8.Cal P w K mg base 1 "is_name" (sp_is_name K) [] := by
  obtain ⟨fd, F⟩ := T.d_is_name
  exact ⟨_, fd, ["value"], [], fn_is_name T  F, T.g_is_name, F.kp, FunD.bindsN (ps := ["value"]) F (fun _ _ _ _ _ _ us hl => match us, hl with | [_], _ => rfl), .nil⟩
theorem kw_is_name (T : Tx w K mg) : CalK P w K mg base 1 "is_name" (sp_is_name K) 0 ["value"] (fun _ zs => zs) := by
  obtain ⟨fd, F⟩ := T.d_is_name
  exact ⟨_, fd, ["value"], _, fn_is_name T F, T.g_is_name, F.kp, FunD.kbindsN (ps := ["value"]) F 0 ["value"] (fun _ zs => zs) (fun _ r => r) (fun _ _ _ _ _ _ us ws h1 h2 => match us, ws, h1, h2 with | [], [_], _, _ => rfl)⟩

end
end G
namespace G
open PySem PySem.Spec PyProof.Rows L2
theorem sc_is_mark : FnScope ["value"] ["value"] (defScope s_is_mark) := ⟨rfl, rfl, rfl, by decide +kernel, rfl, by decide +kernel, by decide +kernel⟩
section
variable {P : Program} {w : World} {K : PySem.W.Frag} {mg : Str → Option Value} {base : Heap}
theorem fn_is_mark (T : Tx w K mg)  {fd : FuncData} (F : FunD K d_is_mark.name d_is_mark.qual d_is_mark.params d_is_mark.body d_is_mark.scope (d_is_mark.dvs K) (d_is_mark.kws K) (He.fAd K d_is_mark.at_) fd) : FnOk P w K mg base CX0 2 (He.fAd K d_is_mark.at_) fd ["value"] (sp_is_mark K) := by
  refine F.ok sc_is_mark (fun vs H Q E h => ?_) (fun cdv A outer s H vs Q E hr h => ?_)
  · exact lenOf h
  · have hu := hu_of hr
    have hu64 := hr.units
    have sz : 100000 ≤ sizeLine := by decide
    have C_is_name := cal_is_name (P := P) (w := w) (base := base) T
    refine ⟨_, PSs.nox (pss_one (ps_ret (pe_and (C8.pe_c C_is_name hr (by decide) rfl (pa_cons (pv 0) pa_nil)) (pe_one (pe_cmpR op_notIn_seq (pv 0) (C8.pe_gc (v := .ref (He.ga K "RESERVED")) rfl T.c_RESERVED) rfl))))), ?_⟩
    obtain ⟨_, v, rfl, ov, q⟩ := h
    refine ⟨_, rfl, rfl, _, rfl, ov, fun H1 s1 => ⟨_, rfl, ?_⟩⟩
    cases e : nameV v with
    | false =>
      refine iteF ?_
      have z : markV v = false := by unfold markV; rw [e]; rfl
      rw [z] at q
      exact q H1 s1
    | true =>
      refine iteT ?_
      cases v with
      | str x =>
        refine ⟨_, rfl, _, _, rfl, .inr (T.t_RES H1), rfl, rfl, ?_⟩
        have z : markV (.str x) = !inV (.str x) RESV := by unfold markV; rw [e]; rfl
        rw [z] at q
        exact q H1 s1
      | _ => exact nomatch e
theorem cal_is_mark (T : Tx w K mg)  : C8.Cal P w K mg base 2 "is_mark" (sp_is_mark K) [] := by
  obtain ⟨fd, F⟩ := T.d_is_mark
  exact ⟨_, fd, ["value"], [], fn_is_mark T  F, T.g_is_mark, F.kp, FunD.bindsN (ps := ["value"]) F (fun _ _ _ _ _ _ us hl => match us, hl with | [_], _ => rfl), .nil⟩
theorem kw_is_mark (T : Tx w K mg) : CalK P w K mg base 2 "is_mark" (sp_is_mark K) 0 ["value"] (fun _ zs => zs) := by
  obtain ⟨fd, F⟩ := T.d_is_mark
  exact ⟨_, fd, ["value"], _, fn_is_mark T F, T.g_is_mark, F.kp, FunD.kbindsN (ps := ["value"]) F 0 ["value"] (fun _ zs => zs) (fun _ r => r) (fun _ _ _ _ _ _ us ws h1 h2 => match us, ws, h1, h2 with | [], [_], _, _ => rfl)⟩

end
end G
namespace G
open PySem PySem.Spec PyProof.Rows L2
theorem sc_least_shift : FnScope ["base"] ["base"] (defScope s_least_shift) := ⟨rfl, rfl, rfl, by decide +kernel, rfl, by decide +kernel, by decide +kernel⟩
section
variable {P : Program} {w : World} {K : PySem.W.Frag} {mg : Str → Option Value} {base : Heap}
theorem fn_least_shift (T : Tx w K mg)  {fd : FuncData} (F : FunD K d_least_shift.name d_least_shift.qual d_least_shift.params d_least_shift.body d_least_shift.scope (d_least_shift.dvs K) (d_least_shift.kws K) (He.fAd K d_least_shift.at_) fd) : FnOk P w K mg base CX0 1 (He.fAd K d_least_shift.at_) fd ["base"] sp_least_shift := by
  refine F.ok sc_least_shift (fun vs H Q E h => ?_) (fun cdv A outer s H vs Q E hr h => ?_)
  · exact lenOf h
  · have hu := hu_of hr
    have hu64 := hr.units
    have sz : 100000 ≤ sizeLine := by decide
    refine ⟨_, PSs.nox (pss_one (ps_ret (pe_ifExp (pt_cmpR op_eq (pv 0) pe_str (nomark _)) pe_int (pe_un un_neg (C8.pe_gc (v := .int 3) rfl T.c_MOST_SHIFT))))), ?_⟩
    obtain ⟨_, x, rfl, q⟩ := h
    refine ⟨_, rfl, rfl, _, rfl, ?_⟩
    unfold leastS at q
    by_cases z : x = ""
    · subst z
      rw [if_pos rfl] at q
      rw [decide_eq_true rfl]
      exact iteT q
    · rw [if_neg z] at q
      rw [decide_eq_false (fun e => z (V.str.inj e))]
      refine iteF ⟨_, rfl, q⟩
theorem cal_least_shift (T : Tx w K mg)  : C8.Cal P w K mg base 1 "least_shift" sp_least_shift [] := by
  obtain ⟨fd, F⟩ := T.d_least_shift
  exact ⟨_, fd, ["base"], [], fn_least_shift T  F, T.g_least_shift, F.kp, FunD.bindsN (ps := ["base"]) F (fun _ _ _ _ _ _ us hl => match us, hl with | [_], _ => rfl), .nil⟩

end
end G
namespace G
open PySem PySem.Spec PyProof.Rows L2
theorem sc_Place___init__ : FnScope ["self", "base", "shift"] ["self", "base", "shift"] (defScope s_Place___init__) := ⟨rfl, rfl, rfl, by decide +kernel, rfl, by decide +kernel, by decide +kernel⟩
section
variable {P : Program} {w : World} {K : PySem.W.Frag} {mg : Str → Option Value} {base : Heap}
theorem fn_Place___init__ (T : Tx w K mg) (pf : PF P)  {fd : FuncData} (F : FunD K d_Place___init__.name d_Place___init__.qual d_Place___init__.params d_Place___init__.body d_Place___init__.scope (d_Place___init__.dvs K) (d_Place___init__.kws K) (He.fAd K d_Place___init__.at_) fd) : FnOk P w K mg base (L2.CX P w) 3 (He.fAd K d_Place___init__.at_) fd ["self", "base", "shift"] (sp_init K) := by
  refine F.ok sc_Place___init__ (fun vs H Q E h => ?_) (fun cdv A outer s H vs Q E hr h => ?_)
  · exact lenOf h
  · have hu := hu_of hr
    have hu64 := hr.units
    have sz : 100000 ≤ sizeLine := by decide
    have C_is_name := cal_is_name (P := P) (w := w) (base := base) T
    have C_is_integer := cal_is_integer (P := P) (w := w) (base := base) T
    have C_least_shift := cal_least_shift (P := P) (w := w) (base := base) T
    refine ⟨_, (pss_cons (ps_if (PW.pt (pw_and (pt_cmpR op_ne (pv 1) pe_str (nomark _)) (pw_and1 (pt_not (pt_val (C8.pe_c C_is_name hr (by decide) rfl (pa_cons (pv 1) pa_nil))))))) (pss_one (ps_raise rfl (takes_of rfl rfl rfl rfl) (pmk1 kd_VE T.e_InvalidName Y_InvalidName pf hr (pa_cons (pv 1) pa_nil)))) pss_nil)
      (pss_cons (ps_if (pt_not (pt_val (C8.pe_c C_is_integer hr (by decide) rfl (pa_cons (pv 2) (pa_cons (C8.pe_c C_least_shift hr (by decide) rfl (pa_cons (pv 1) pa_nil)) (pa_cons (C8.pe_gc (v := .int 3) rfl T.c_MOST_SHIFT) pa_nil)))))) (pss_one (ps_raise rfl (takes_of rfl rfl rfl rfl) (pmk1 kd_VE T.e_InvalidInteger Y_InvalidInteger pf hr (pa_cons (pv 2) pa_nil)))) pss_nil)
      (pss_cons (ps_fld (pv 0) (pv 1) rfl)
      (pss_one (ps_fld (pv 0) (pv 2) rfl))))), ?_⟩
    obtain ⟨_, x, dx, b, v, rfl, hx, ov, hbl, qN, qI, q⟩ := h
    have out : ∀ {y : Str} {u : V} {H1 : Hp}, Out K E y u H → Same H H1 → ∀ d, H1 d = none → E (.ref (He.ga K y)) (some d) (upd H1 d (.xd [("value", u)])) := fun o s1 d hd => o d _ (Same.un s1 hd) (Same.new' s1 hd) upd_same
    have rest : ∀ H1, Same H H1 → okB b = true → inR v (leastS b) 3 = true → ∀ H2 : Hp, H2 = upd (upd H1 x (.ins (He.ga K "Place") dx (putF "own_base" (.str b) []))) x (.ins (He.ga K "Place") dx (putF "own_shift" v (putF "own_base" (.str b) []))) → Q .non H2 := by
      intro H1 s1 hb hi H2 e2
      obtain ⟨i, rfl⟩ := inR_form hi
      refine q i hb rfl hi H2 (fun a o e na => ?_) ?_
      · rw [e2, upd_ne na, upd_ne na]
        exact s1 a o e
      · rw [e2, upd_same]
        rfl
    have sok : ∀ H1, Same H H1 → okB b = true → (tNot (tB (tCall (sp_is_integer K) [] C8.E0 (tCons (tVar 2) (tCons (tCall sp_least_shift [] C8.E0 (tCons (tVar 1) tNil)) (tCons (tC (.int 3)) tNil)))))) [some (.ref x), some (.str b), some v] H1 fun c H3 => H3 = H1 ∧ c = !(inR v (leastS b) 3) := by
      intro H1 s1 hb
      exact ⟨_, rfl, _, rfl, rfl, _, rfl, rfl, _, _, _, rfl, (ov.same s1).1, _, rfl, rfl, rfl⟩
    -- if base != "" and not is_name(base)
    refine ⟨_, rfl, rfl, _, rfl, ?_⟩
    by_cases z : b = ""
    · rw [decide_eq_true (congrArg V.str z)]
      refine iteF ?_
      refine iteF ?_
      have hb : okB b = true := by unfold okB; rw [decide_eq_true z]; rfl
      refine ⟨_, rfl, _, rfl, rfl, _, rfl, rfl, _, _, _, rfl, ov.1, _, rfl, ?_⟩
      cases hi : inR v (leastS b) 3 with
      | false => exact iteT ⟨_, rfl, v, rfl, fun d hd => out (qI hb hi) Same.rfl' d hd⟩
      | true =>
        refine iteF ?_
        refine ⟨_, rfl, _, rfl, x, _, dx, [], rfl, hx, T.cl_Place, T.nb_Place, (by decide), ?_⟩
        refine ⟨_, rfl, _, rfl, x, _, dx, _, rfl, upd_same, T.cl_Place, T.ns_Place, (by show 1 < 1000; decide), ?_⟩
        exact rest H Same.rfl' hb hi _ rfl
    · rw [decide_eq_false (fun e => z (V.str.inj e))]
      refine iteT ?_
      refine ⟨_, rfl, rfl, _, rfl, ⟨Ask.str b, fun y e => by cases e; exact hbl⟩, fun H1 s1 => ⟨_, rfl, ?_⟩⟩
      show if (!(nameS b)) = true then _ else _
      cases nb : nameS b with
      | false =>
        have hb : okB b = false := by unfold okB; rw [decide_eq_false z, nb]; rfl
        exact iteT ⟨_, rfl, .str b, rfl, fun d hd => out (qN hb) s1 d hd⟩
      | true =>
        have hb : okB b = true := by unfold okB; rw [nb, Bool.or_true]
        refine iteF ?_
        refine ⟨_, rfl, _, rfl, rfl, _, rfl, rfl, _, _, _, rfl, (ov.same s1).1, _, rfl, ?_⟩
        cases hi : inR v (leastS b) 3 with
        | false => exact iteT ⟨_, rfl, v, rfl, fun d hd => out (qI hb hi) s1 d hd⟩
        | true =>
          refine iteF ?_
          refine ⟨_, rfl, _, rfl, x, _, dx, [], rfl, s1 _ _ hx, T.cl_Place, T.nb_Place, (by decide), ?_⟩
          refine ⟨_, rfl, _, rfl, x, _, dx, _, rfl, upd_same, T.cl_Place, T.ns_Place, (by show 1 < 1000; decide), ?_⟩
          exact rest H1 s1 hb hi _ rfl

theorem kb_Place1 {fd : FuncData} (F : FunD K d_Place___init__.name d_Place___init__.qual d_Place___init__.params d_Place___init__.body d_Place___init__.scope (d_Place___init__.dvs K) (d_Place___init__.kws K) (He.fAd K d_Place___init__.at_) fd) : ∃ ds, Vals [V.int 0] ds ∧ Binds K fd ["self", "base", "shift"] ds := by
  exact FunD.binds (ps := ["self", "base", "shift"]) F 2 1 (List.cons_ne_nil _ _) rfl (fun Tt D doc pm an cdv ct us its ks h1 h2 h3 => match us, its, ks, h1, h2, h3 with
    | [_, _], [_], [_], _, _, _ => ⟨_, rfl, _, _, _, _, _, _, rfl, rfl, rfl⟩) (List.cons_ne_nil _ _)
theorem kb_Place2 {fd : FuncData} (F : FunD K d_Place___init__.name d_Place___init__.qual d_Place___init__.params d_Place___init__.body d_Place___init__.scope (d_Place___init__.dvs K) (d_Place___init__.kws K) (He.fAd K d_Place___init__.at_) fd) :
    ∃ g : List Value → List Value → List Value, KBn K fd ["self", "base", "shift"] 2 ["shift"] g (fun vs zs => vs ++ zs) := by
  obtain ⟨its, mv, kb⟩ := FunD.kbinds (ps := ["self", "base", "shift"]) F 2 ["shift"] [] (fun vs ds mz zs => vs ++ zs) (List.cons_ne_nil _ _) (List.cons_ne_nil _ _) (fun q hq => nomatch hq) (fun a b c d => a.append d)
    (fun Tt D doc pm an cdv ct us its mv ws h1 h2 h3 h4 => match us, its, mv, ws, h1, h2, h3, h4 with
    | [_, _], [_], [], [_], _, _, _, _ => ⟨_, rfl, rfl⟩)
  exact ⟨_, kb⟩
theorem kb_Place0 {fd : FuncData} (F : FunD K d_Place___init__.name d_Place___init__.qual d_Place___init__.params d_Place___init__.body d_Place___init__.scope (d_Place___init__.dvs K) (d_Place___init__.kws K) (He.fAd K d_Place___init__.at_) fd) :
    ∃ g : List Value → List Value → List Value, KBn K fd ["self", "base", "shift"] 1 ["shift"] g (fun vs zs => vs ++ [.str ""] ++ zs) := by
  obtain ⟨its, mv, kb⟩ := FunD.kbinds (ps := ["self", "base", "shift"]) F 1 ["shift"] [] (fun vs ds mz zs => vs ++ ds ++ zs) (List.cons_ne_nil _ _) (List.cons_ne_nil _ _) (fun q hq => nomatch hq) (fun a b c d => (a.append b).append d)
    (fun Tt D doc pm an cdv ct us its mv ws h1 h2 h3 h4 => match us, its, mv, ws, h1, h2, h3, h4 with
    | [_], [_], [], [_], _, _, _, _ => ⟨_, rfl, rfl⟩)
  exact ⟨_, kb⟩

end
end G
namespace G
open PySem PySem.Spec PyProof.Rows L2
theorem sc_parts_of : FnScope ["text"] ["text"] (defScope s_parts_of) := ⟨rfl, rfl, rfl, by decide +kernel, rfl, by decide +kernel, by decide +kernel⟩
section
variable {P : Program} {w : World} {K : PySem.W.Frag} {mg : Str → Option Value} {base : Heap}
theorem fn_parts_of (T : Tx w K mg)  {fd : FuncData} (F : FunD K d_parts_of.name d_parts_of.qual d_parts_of.params d_parts_of.body d_parts_of.scope (d_parts_of.dvs K) (d_parts_of.kws K) (He.fAd K d_parts_of.at_) fd) : FnOk P w K mg base CX0 2 (He.fAd K d_parts_of.at_) fd ["text"] sp_parts := by
  refine F.ok sc_parts_of (fun vs H Q E h => ?_) (fun cdv A outer s H vs Q E hr h => ?_)
  · exact lenOf h
  · have hu := hu_of hr
    have hu64 := hr.units
    have sz : 100000 ≤ sizeLine := by decide
    have C_is_name := cal_is_name (P := P) (w := w) (base := base) T
    obtain ⟨esS, nS, kdS⟩ := T.k_SIGNS
    refine ⟨_, PSs.nox (Evl.pss_cut (ps_if (PW.pt (pw_and (pt_cmpR op_eq (pe_callB call_len_str rfl T.f_len PySem.boot_len (pa_cons (pv 0) pa_nil)) pe_int (nomark _)) (pw_and1 (pt_cmpR op_in_sign (pv 0) pe_str rfl)))) (pss_one (ps_ret (pe_tup (pa_cons pe_str (pa_cons (pe_callTy call_int_str rfl T.f_int PyProof.Rows.boot_int (pa_cons (pv 0) pa_nil)) pa_nil))))) pss_nil)
      (Evl.pss_cut (ps_if (pt_val (C8.pe_c C_is_name hr (by decide) rfl (pa_cons (pv 0) pa_nil))) (pss_one (ps_ret (pe_tup (pa_cons (pv 0) (pa_cons pe_int pa_nil))))) pss_nil)
      (pss_cons (ps_if (PW.pt (pw_and (pt_cmpR op_gt (pe_callB call_len_str rfl T.f_len PySem.boot_len (pa_cons (pv 0) pa_nil)) pe_int (nomark _)) (pw_and (pt_cmpR (op_in_kd kdS) (pe_ix ix_str (pv 0) (pe_un un_neg pe_int) (fun _ _ => rfl)) (C8.pe_gc (v := .ref (He.ga K "SIGNS")) rfl T.c_SIGNS) rfl) (pw_and (pt_cmpR op_in_sign (pe_ix ix_str (pv 0) (pe_un un_neg pe_int) (fun _ _ => rfl)) pe_str rfl) (pw_and1 (pt_val (C8.pe_c C_is_name hr (by decide) rfl (pa_cons (pe_slice sl_str (pv 0) po_none (po_some (pe_un un_neg pe_int))) pa_nil)))))))) (pss_one (ps_ret (pe_tup (pa_cons (pe_slice sl_str (pv 0) po_none (po_some (pe_un un_neg pe_int))) (pa_cons (pe_op op_mul (pe_ix ix_kdict (C8.pe_gc (v := .ref (He.ga K "SIGNS")) rfl T.c_SIGNS) (pe_ix ix_str (pv 0) (pe_un un_neg pe_int) (fun _ _ => rfl)) (fun _ _ => rfl)) (pe_callTy call_int_str rfl T.f_int PyProof.Rows.boot_int (pa_cons (pe_ix ix_str (pv 0) (pe_un un_neg pe_int) (fun _ _ => rfl)) pa_nil))) pa_nil))))) pss_nil)
      (pss_one (ps_ret pe_non))))), ?_⟩
    obtain ⟨_, x, rfl, hx, q⟩ := h
    have hx2 : x.length ≤ sizeLine := by omega
    refine ⟨fun σ' H' => σ' = [some (.str x)] ∧ H' = H ∧ ¬ (x.length = 1 ∧ last1 x ∈ [48, 49, 50, 51]), ?_, ?_⟩
    · refine ⟨_, rfl, _, rfl, hx2, rfl, _, rfl, ?_⟩
      by_cases h1 : x.length = 1
      · rw [decide_eq_true (by rw [h1]; rfl)]
        refine iteT ⟨_, rfl, last1 x, _, congrArg V.str (str1 h1), rfl, _, rfl, ?_⟩
        rw [dig0123]
        by_cases h2 : last1 x ∈ [48, 49, 50, 51]
        · rw [decide_eq_true h2]
          have e : partsS x = some (("" : Str), digS (last1 x)) := if_pos ⟨h1, h2⟩
          rw [e] at q
          refine iteT ⟨_, rfl, x, _, rfl, (congrArg PySem.intText? (str1 h1)).trans (int_dig h2), by omega, (by show 2 ≤ sizeLine; decide), fun p hp => q p _ hp (Same.new hp) upd_same⟩
        · rw [decide_eq_false h2]
          exact iteF ⟨rfl, rfl, fun z => h2 z.2⟩
      · rw [decide_eq_false (by intro e; exact h1 (by have := V.int.inj e; omega))]
        exact iteF (iteF ⟨rfl, rfl, fun z => h1 z.1⟩)
    rintro σ' H' ⟨rfl, rfl, n1⟩
    refine ⟨fun σ' H1 => σ' = [some (.str x)] ∧ Same H' H1 ∧ nameS x = false, ?_, ?_⟩
    · refine ⟨_, rfl, rfl, _, rfl, ⟨Ask.str x, fun y e => by cases e; exact hx⟩, fun H1 s1 => ⟨_, rfl, ?_⟩⟩
      show if nameS x = true then _ else _
      cases h3 : nameS x with
      | true =>
        have e : partsS x = some (x, 0) := by unfold partsS; rw [if_neg n1, if_pos h3]
        rw [e] at q
        exact iteT ⟨_, rfl, (by show 2 ≤ sizeLine; decide), fun p hp => q p _ (Same.un s1 hp) (Same.new' s1 hp) upd_same⟩
      | false => exact iteF ⟨rfl, s1, rfl⟩
    rintro σ' H1 ⟨rfl, s1, n2⟩
    have e0 : partsS x = if 2 < x.length ∧ last2 x ∈ [43, 45] ∧ last1 x ∈ [49, 50, 51] ∧ nameS (cut2 x) = true then some (cut2 x, (if last2 x = 43 then 1 else -1) * digS (last1 x)) else none := by
      unfold partsS
      rw [if_neg n1, if_neg (by rw [n2]; decide)]
    have no : ∀ H2, Same H' H2 → ¬ (2 < x.length ∧ last2 x ∈ [43, 45] ∧ last1 x ∈ [49, 50, 51] ∧ nameS (cut2 x) = true) → { nx := fun _ G' => Q .non G', rt := Q : Ends }.rt .non H2 := by
      intro H2 s2 hn
      rw [e0, if_neg hn] at q
      exact q H2 s2
    refine ⟨_, rfl, _, rfl, hx2, _, _, rfl, rfl, _, rfl, ?_⟩
    by_cases h4 : 2 < x.length
    · rw [decide_eq_true (by omega)]
      have vs := T.v_SIGNS
      have sg : ∃ r, PySem.W.nsIn K (He.ga K "SIGNS") ⟨#[last2 x]⟩ = some r ∧ r.isSome = decide (last2 x ∈ [43, 45]) ∧ ∀ u, r = some u → RelV (.int (if last2 x = 43 then 1 else -1)) u := by
        by_cases h5 : last2 x ∈ [43, 45]
        · have h5' := h5
          simp only [List.mem_cons, List.not_mem_nil, or_false] at h5'
          rcases h5' with e | e
          · obtain ⟨u, e1, e2⟩ := He.valsB_ok vs.2 (q := ("+", .int 1)) List.mem_cons_self
            refine ⟨some u, ?_, by rw [decide_eq_true h5]; rfl, fun u' eu => ?_⟩
            · rw [e]
              exact e1
            · cases eu
              rw [e, if_pos rfl]
              exact e2
          · obtain ⟨u, e1, e2⟩ := He.valsB_ok vs.2 (q := ("-", .int (-1))) (List.mem_cons_of_mem _ List.mem_cons_self)
            refine ⟨some u, ?_, by rw [decide_eq_true h5]; rfl, fun u' eu => ?_⟩
            · rw [e]
              exact e1
            · cases eu
              rw [e, if_neg (by decide)]
              exact e2
        · exact ⟨none, only_ok vs.1 (sign_no h5), by rw [decide_eq_false h5]; rfl, fun u e => nomatch e⟩
      obtain ⟨r, sr, si, sv⟩ := sg
      refine iteT ⟨_, rfl, _, rfl, _, _, last2 x, rfl, rfl, hx2, atI_last2 (by omega), _, r, rfl, rfl, sr, _, rfl, ?_⟩
      rw [si]
      by_cases h5 : last2 x ∈ [43, 45]
      · rw [decide_eq_true h5]
        refine iteT ⟨_, rfl, _, rfl, _, _, last1 x, rfl, rfl, hx2, atI_last1 (by omega), _, _, rfl, rfl, _, rfl, ?_⟩
        rw [dig123]
        by_cases h6 : last1 x ∈ [49, 50, 51]
        · rw [decide_eq_true h6]
          have lc := cutS_length x none (some (-2))
          refine iteT ⟨_, rfl, _, rfl, _, rfl, x, rfl, hx2, rfl, _, rfl, ⟨Ask.str _, fun y e => by cases e; omega⟩, fun H2 s2 => ⟨_, rfl, ?_⟩⟩
          show if nameS (cut2 x) = true then _ else _
          cases h7 : nameS (cut2 x) with
          | true =>
            rw [e0, if_pos ⟨h4, h5, h6, h7⟩] at q
            obtain ⟨u, rfl⟩ : ∃ u, r = some u := by
              cases r with
              | none => rw [decide_eq_true h5] at si; exact nomatch si
              | some u => exact ⟨u, rfl⟩
            have i1 : last1 x ∈ [48, 49, 50, 51] := List.mem_cons_of_mem _ h6
            refine iteT ⟨_, rfl, _, rfl, _, rfl, x, rfl, hx2, _, rfl, _, rfl, _, _, last2 x, rfl, rfl, hx2, atI_last2 (by omega), _, _, _, rfl, rfl, ⟨esS, nS, u, kdS.at_, kdS.lit, sr, sv u rfl⟩, ?_⟩
            refine ⟨_, rfl, _, rfl, _, _, last1 x, rfl, rfl, hx2, atI_last1 (by omega), _, _, rfl, int_dig i1, (by show 1 ≤ 640; decide), _, _, rfl, rfl, ?_, (by show 2 ≤ sizeLine; decide), fun p hp => ?_⟩
            · refine .inl ⟨?_, ?_⟩ <;> split <;> decide
            · exact q p _ (Same.un s1 (Same.un s2 hp)) (Same.new' (Same.tr s1 s2) hp) upd_same
          | false => exact iteF (no H2 (Same.tr s1 s2) (fun z => by rw [h7] at z; exact nomatch z.2.2.2))
        · rw [decide_eq_false h6]
          exact iteF (iteF (no H1 s1 (fun z => h6 z.2.2.1)))
      · rw [decide_eq_false h5]
        exact iteF (iteF (no H1 s1 (fun z => h5 z.2.1)))
    · rw [decide_eq_false (by omega)]
      exact iteF (iteF (no H1 s1 (fun z => h4 z.1)))
theorem cal_parts_of (T : Tx w K mg)  : C8.Cal P w K mg base 2 "parts_of" sp_parts [] := by
  obtain ⟨fd, F⟩ := T.d_parts_of
  exact ⟨_, fd, ["text"], [], fn_parts_of T  F, T.g_parts_of, F.kp, FunD.bindsN (ps := ["text"]) F (fun _ _ _ _ _ _ us hl => match us, hl with | [_], _ => rfl), .nil⟩

end
end G
namespace G
open PySem PySem.Spec PyProof.Rows L2
theorem sc_Place_base : FnScope ["self"] ["self"] (defScope s_Place_base) := ⟨rfl, rfl, rfl, by decide +kernel, rfl, by decide +kernel, by decide +kernel⟩
section
variable {P : Program} {w : World} {K : PySem.W.Frag} {mg : Str → Option Value} {base : Heap}
theorem fn_Place_base (T : Tx w K mg)  {fd : FuncData} (F : FunD K x_Place_base.nm x_Place_base.ql (defArgs x_Place_base.st) (defBody x_Place_base.st) (defScope x_Place_base.st) [] [] (x_Place_base.at_ K) fd) : FnOk P w K mg base CX0 1 (x_Place_base.at_ K) fd ["self"] (sp_get K "own_base") := by
  refine F.ok sc_Place_base (fun vs H Q E h => ?_) (fun cdv A outer s H vs Q E hr h => ?_)
  · exact lenOf h
  · have hu := hu_of hr
    have hu64 := hr.units
    have sz : 100000 ≤ sizeLine := by decide
    refine ⟨_, PSs.nox (pss_one (ps_ret (pe_fld (pv 0) rfl))), ?_⟩
    obtain ⟨_, a, dx, b, i, v, rfl, ha, hv, q⟩ := h
    exact ⟨_, rfl, a, _, dx, _, v, rfl, ha, T.cl_Place, T.nb_Place, hv, q⟩

end
end G
namespace G
open PySem PySem.Spec PyProof.Rows L2
theorem sc_Place_shift : FnScope ["self"] ["self"] (defScope s_Place_shift) := ⟨rfl, rfl, rfl, by decide +kernel, rfl, by decide +kernel, by decide +kernel⟩
section
variable {P : Program} {w : World} {K : PySem.W.Frag} {mg : Str → Option Value} {base : Heap}
theorem fn_Place_shift (T : Tx w K mg)  {fd : FuncData} (F : FunD K x_Place_shift.nm x_Place_shift.ql (defArgs x_Place_shift.st) (defBody x_Place_shift.st) (defScope x_Place_shift.st) [] [] (x_Place_shift.at_ K) fd) : FnOk P w K mg base CX0 1 (x_Place_shift.at_ K) fd ["self"] (sp_get K "own_shift") := by
  refine F.ok sc_Place_shift (fun vs H Q E h => ?_) (fun cdv A outer s H vs Q E hr h => ?_)
  · exact lenOf h
  · have hu := hu_of hr
    have hu64 := hr.units
    have sz : 100000 ≤ sizeLine := by decide
    refine ⟨_, PSs.nox (pss_one (ps_ret (pe_fld (pv 0) rfl))), ?_⟩
    obtain ⟨_, a, dx, b, i, v, rfl, ha, hv, q⟩ := h
    exact ⟨_, rfl, a, _, dx, _, v, rfl, ha, T.cl_Place, T.ns_Place, hv, q⟩

end
end G
namespace G
open PySem PySem.Spec PyProof.Rows L2
theorem sc_pair_of : FnScope ["value"] ["value"] (defScope s_pair_of) := ⟨rfl, rfl, rfl, by decide +kernel, rfl, by decide +kernel, by decide +kernel⟩
section
variable {P : Program} {w : World} {K : PySem.W.Frag} {mg : Str → Option Value} {base : Heap}
theorem fn_pair_of (T : Tx w K mg)  {fd : FuncData} (F : FunD K d_pair_of.name d_pair_of.qual d_pair_of.params d_pair_of.body d_pair_of.scope (d_pair_of.dvs K) (d_pair_of.kws K) (He.fAd K d_pair_of.at_) fd) : FnOk P w K mg base CX0 3 (He.fAd K d_pair_of.at_) fd ["value"] (sp_pair K) := by
  refine F.ok sc_pair_of (fun vs H Q E h => ?_) (fun cdv A outer s H vs Q E hr h => ?_)
  · exact lenOf h
  · have hu := hu_of hr
    have hu64 := hr.units
    have sz : 100000 ≤ sizeLine := by decide
    have C_parts_of := cal_parts_of (P := P) (w := w) (base := base) T
    have C_is_integer := cal_is_integer (P := P) (w := w) (base := base) T
    obtain ⟨fd_base, F_base⟩ := T.d_Place_base
    have G_base := fn_Place_base (P := P) (w := w) (base := base) T F_base
    have B_base := FunD.bindsN (ps := ["self"]) F_base (fun _ _ _ _ _ _ us hl => match us, hl with | [_], _ => rfl)
    obtain ⟨fd_shift, F_shift⟩ := T.d_Place_shift
    have G_shift := fn_Place_shift (P := P) (w := w) (base := base) T F_shift
    have B_shift := FunD.bindsN (ps := ["self"]) F_shift (fun _ _ _ _ _ _ us hl => match us, hl with | [_], _ => rfl)
    refine ⟨_, PSs.nox (pss_cons (ps_if (pt_val (pe_callB call_isi rfl T.f_isinstance PyProof.Rows.boot_isinstance (pa_cons (pv 0) (pa_cons (C8.pe_gc (v := .ref (He.ga K "Place")) rfl ⟨_, T.g_Place, rfl⟩) pa_nil)))) (pss_one (ps_ret (pe_tup (pa_cons (pe_prop (pv 0) T.cl_Place T.p_Place_base G_base (hr.mono (by decide)) B_base .nil pass0 rfl) (pa_cons (pe_prop (pv 0) T.cl_Place T.p_Place_shift G_shift (hr.mono (by decide)) B_shift .nil pass0 rfl) pa_nil))))) pss_nil)
      (pss_cons (ps_if (pt_val (pe_callB call_isi rfl T.f_isinstance PyProof.Rows.boot_isinstance (pa_cons (pv 0) (pa_cons (pe_bltn (v := .ty "str") rfl T.f_str PyProof.Rows.boot_str rfl) pa_nil)))) (pss_one (ps_ret (C8.pe_c C_parts_of hr (by decide) rfl (pa_cons (pv 0) pa_nil)))) pss_nil)
      (pss_one (ps_ret (pe_ifExp (pt_val (C8.pe_c C_is_integer hr (by decide) rfl (pa_cons (pv 0) (pa_cons pe_int (pa_cons (C8.pe_gc (v := .int 3) rfl T.c_MOST_SHIFT) pa_nil))))) (pe_tup (pa_cons pe_str (pa_cons (pv 0) pa_nil))) pe_non))))), ?_⟩
    obtain ⟨_, v, t, rfl, ht, q⟩ := h
    cases t with
    | pl b i =>
      obtain ⟨a, dx, rfl, ha⟩ := ht
      have ty : TyX K H (.ref a) (.ref (He.ga K "Place")) := ty_ins T.cl_Place T.i_Place ha
      refine ⟨_, rfl, _, _, _, _, true, rfl, .own _, ty, kit_self _ _, _, rfl, ?_⟩
      refine iteT ⟨_, rfl, a, dx, _, rfl, ha, rfl, a, dx, b, i, _, rfl, ha, pfs_base b i, _, rfl, a, dx, _, rfl, ha, rfl, a, dx, b, i, _, rfl, ha, pfs_shift b i, (by show 2 ≤ sizeLine; decide), fun p hp => ?_⟩
      exact q p _ hp (Same.new hp) upd_same
    | str x =>
      obtain ⟨rfl, hx⟩ := ht
      refine ⟨_, rfl, _, _, _, _, false, rfl, .own _, .base (.str x), T.kt_Place "str" (by decide), _, rfl, iteF ?_⟩
      refine ⟨_, rfl, _, _, _, _, true, rfl, .ty _, .base (.str x), kit_ty (r := true) (by decide +kernel), _, rfl, iteT ?_⟩
      exact ⟨_, rfl, rfl, x, rfl, hx, q⟩
    | int i =>
      cases ht
      refine ⟨_, rfl, _, _, _, _, false, rfl, .own _, .base (.int i), T.kt_Place "int" (by decide), _, rfl, iteF ?_⟩
      refine ⟨_, rfl, _, _, _, _, false, rfl, .ty _, .base (.int i), kit_ty (r := false) (by decide +kernel), _, rfl, iteF ?_⟩
      refine ⟨_, rfl, rfl, _, _, _, rfl, Ask.int i, _, rfl, ?_⟩
      rw [inR_int]
      rw [show pairT (.int i) = if 0 ≤ i ∧ i ≤ 3 then some (("" : Str), i) else none from rfl] at q
      by_cases z : 0 ≤ i ∧ i ≤ 3
      · rw [decide_eq_true z.1, decide_eq_true z.2]
        rw [if_pos z] at q
        exact iteT ⟨_, rfl, (by show 2 ≤ sizeLine; decide), fun p hp => q p _ hp (Same.new hp) upd_same⟩
      · rw [if_neg z] at q
        have e : (decide (0 ≤ i) && decide (i ≤ 3)) = false := by
          rw [Bool.and_eq_false_iff, decide_eq_false_iff_not, decide_eq_false_iff_not]
          omega
        rw [e]
        exact iteF (q H Same.rfl')
    | oth =>
      obtain ⟨⟨t1, ty1, k1, k2, k3⟩, ⟨t, ty, k⟩, ni, ns⟩ := ht
      have e3 : isS v = false := by
        cases v with
        | str x => exact absurd rfl (ns x)
        | _ => rfl
      have e4 : inR v 0 3 = false := by
        cases v with
        | int i => exact absurd rfl (ni i)
        | _ => rfl
      refine ⟨_, rfl, _, _, t, _, false, rfl, .own _, ty, k, _, rfl, iteF ?_⟩
      refine ⟨_, rfl, _, _, t1, _, _, rfl, .ty _, ty1, k3, _, rfl, ?_⟩
      rw [e3]
      refine iteF ⟨_, rfl, rfl, _, _, _, rfl, ⟨t1, ty1, k1, k2, k3⟩, _, rfl, ?_⟩
      rw [e4]
      exact iteF (q H Same.rfl')
theorem cal_pair_of (T : Tx w K mg)  : C8.Cal P w K mg base 3 "pair_of" (sp_pair K) [] := by
  obtain ⟨fd, F⟩ := T.d_pair_of
  exact ⟨_, fd, ["value"], [], fn_pair_of T  F, T.g_pair_of, F.kp, FunD.bindsN (ps := ["value"]) F (fun _ _ _ _ _ _ us hl => match us, hl with | [_], _ => rfl), .nil⟩

end
end G
namespace G
open PySem PySem.Spec PyProof.Rows L2
theorem sc_is_place : FnScope ["value"] ["value"] (defScope s_is_place) := ⟨rfl, rfl, rfl, by decide +kernel, rfl, by decide +kernel, by decide +kernel⟩
section
variable {P : Program} {w : World} {K : PySem.W.Frag} {mg : Str → Option Value} {base : Heap}
theorem fn_is_place (T : Tx w K mg)  {fd : FuncData} (F : FunD K d_is_place.name d_is_place.qual d_is_place.params d_is_place.body d_is_place.scope (d_is_place.dvs K) (d_is_place.kws K) (He.fAd K d_is_place.at_) fd) : FnOk P w K mg base CX0 4 (He.fAd K d_is_place.at_) fd ["value"] (sp_is_place K) := by
  refine F.ok sc_is_place (fun vs H Q E h => ?_) (fun cdv A outer s H vs Q E hr h => ?_)
  · exact lenOf h
  · have hu := hu_of hr
    have hu64 := hr.units
    have sz : 100000 ≤ sizeLine := by decide
    have C_pair_of := cal_pair_of (P := P) (w := w) (base := base) T
    refine ⟨_, PSs.nox (pss_one (ps_ret (pe_cmpR op_notN (C8.pe_c C_pair_of hr (by decide) rfl (pa_cons (pv 0) pa_nil)) pe_non (nomark _)))), ?_⟩
    obtain ⟨_, v, t, rfl, ht, q⟩ := h
    refine ⟨_, rfl, rfl, v, t, rfl, ht, ?_⟩
    cases e : pairT t with
    | none =>
      intro H1 s1
      rw [e] at q
      exact ⟨rfl, q H1 s1⟩
    | some bi =>
      obtain ⟨b, i⟩ := bi
      intro p H1 hp s1 h1
      rw [e] at q
      exact ⟨rfl, q H1 s1⟩
theorem cal_is_place (T : Tx w K mg)  : C8.Cal P w K mg base 4 "is_place" (sp_is_place K) [] := by
  obtain ⟨fd, F⟩ := T.d_is_place
  exact ⟨_, fd, ["value"], [], fn_is_place T  F, T.g_is_place, F.kp, FunD.bindsN (ps := ["value"]) F (fun _ _ _ _ _ _ us hl => match us, hl with | [_], _ => rfl), .nil⟩
theorem kw_is_place (T : Tx w K mg) : CalK P w K mg base 4 "is_place" (sp_is_place K) 0 ["value"] (fun _ zs => zs) := by
  obtain ⟨fd, F⟩ := T.d_is_place
  exact ⟨_, fd, ["value"], _, fn_is_place T F, T.g_is_place, F.kp, FunD.kbindsN (ps := ["value"]) F 0 ["value"] (fun _ zs => zs) (fun _ r => r) (fun _ _ _ _ _ _ us ws h1 h2 => match us, ws, h1, h2 with | [], [_], _, _ => rfl)⟩

end
end G
namespace G
open PySem PySem.Spec PyProof.Rows L2
/-! ### steps.py: the mirror and the promises -/
def FTAB : List (Str × Str) := [("cut", "p"), ("write", "ppm"), ("read", "p"), ("look", "p"), ("store", "pm"), ("test", "p"), ("sync", "pp"), ("lock", "n"), ("unlock", "n")]
def formS (x : Str) : Option Str := FTAB.lookup x
theorem lookup_mem {α β : Type} [BEq α] [LawfulBEq α] {x : α} {f : β} : ∀ {l : List (α × β)}, l.lookup x = some f → (x, f) ∈ l
  | [], h => nomatch h
  | (y, g) :: l, h => by
    rw [List.lookup_cons] at h
    by_cases e : x = y
    · subst e
      rw [beq_self_eq_true] at h
      cases h
      exact List.mem_cons_self
    · rw [beq_eq_false_iff_ne.mpr e] at h
      exact List.mem_cons_of_mem _ (lookup_mem h)
/-- a value and what it stands for -/
abbrev VT := V × Th
def fitsT (c : Nat) (p : VT) : Bool := if c = 112 then (pairT p.2).isSome else if c = 109 then markV p.1 else nameV p.1
def stepP : List VT → Bool
  | (.str x, _) :: r => match formS x with
    | some f => decide (r.length = f.length) && (f.cps.toList.zip r).all fun z => fitsT z.1 z.2
    | none => false
  | _ => false
def AllTh (K : PySem.W.Frag) (H : Hp) (ps : List VT) : Prop := ∀ p ∈ ps, ThAt K H p.1 p.2
theorem AllTh.same {K : PySem.W.Frag} {H H' : Hp} {ps : List VT} (s : Same H H') (h : AllTh K H ps) : AllTh K H' ps := fun p hp => (h p hp).same s
def sp_fits (K : PySem.W.Frag) : Sp := fun vs H Q _ => vs.length = 2 ∧ ∃ (c : Nat) (v : V) (t : Th), vs = [.str ⟨#[c]⟩, v] ∧ ThAt K H v t ∧ ∀ H', Same H H' → Q (.bl (fitsT c (v, t))) H'
/-- what is no tuple -/
def NoTup (K : PySem.W.Frag) (H : Hp) (v : V) : Prop := ∃ t, TyX K H v t ∧ PySem.W.kitOne K t (.type "tuple") = some false
theorem NoTup.same {K : PySem.W.Frag} {H H' : Hp} {v : V} (s : Same H H') (h : NoTup K H v) : NoTup K H' v := by
  obtain ⟨t, a, b⟩ := h
  exact ⟨t, ty_same s a, b⟩
/-- what is_step is asked of -/
def StAt (K : PySem.W.Frag) (H : Hp) (v : V) : Option (List VT) → Prop
  | none => NoTup K H v
  | some ps => TpA H v (ps.map Prod.fst) ∧ AllTh K H ps ∧ ps.length ≤ 100
theorem StAt.same {K : PySem.W.Frag} {H H' : Hp} {v : V} {o : Option (List VT)} (s : Same H H') (h : StAt K H v o) : StAt K H' v o := by
  cases o with
  | none => exact NoTup.same s h
  | some ps => exact ⟨h.1.same s, h.2.1.same s, h.2.2⟩
def stepO : Option (List VT) → Bool
  | none => false
  | some ps => stepP ps
def sp_is_step (K : PySem.W.Frag) : Sp := fun vs H Q _ => vs.length = 1 ∧ ∃ (v : V) (o : Option (List VT)), vs = [v] ∧ StAt K H v o ∧ ∀ H', Same H H' → Q (.bl (stepO o)) H'
theorem th_okv {K : PySem.W.Frag} {H : Hp} {v : V} {t : Th} (cl : Cls K (He.ga K "Place")) (i : insB K (He.ga K "Place") = true) (h : ThAt K H v t) : Okv K H v := by
  cases t with
  | pl b j =>
    obtain ⟨a, dx, rfl, ha⟩ := h
    exact ⟨Ask.ins cl i ha, fun x e => nomatch e⟩
  | str x =>
    obtain ⟨rfl, hx⟩ := h
    exact ⟨Ask.str x, fun y e => by cases e; exact hx⟩
  | int j =>
    cases h
    exact ⟨Ask.int j, fun x e => nomatch e⟩
  | oth => exact ⟨h.1, fun x e => absurd e (h.2.2.2 x)⟩
theorem one_p (c : Nat) : decide (V.str ⟨#[c]⟩ = V.str "p") = decide (c = 112) := by
  rw [Bool.eq_iff_iff, decide_eq_true_eq, decide_eq_true_eq]
  refine ⟨fun e => ?_, fun e => by rw [e]; rfl⟩
  exact (List.cons.inj ((congrArg (fun s : Str => s.cps.toList) (V.str.inj e)).trans (show (Str.ofString "p").cps.toList = [112] by decide +kernel))).1
theorem one_m (c : Nat) : decide (V.str ⟨#[c]⟩ = V.str "m") = decide (c = 109) := by
  rw [Bool.eq_iff_iff, decide_eq_true_eq, decide_eq_true_eq]
  refine ⟨fun e => ?_, fun e => by rw [e]; rfl⟩
  exact (List.cons.inj ((congrArg (fun s : Str => s.cps.toList) (V.str.inj e)).trans (show (Str.ofString "m").cps.toList = [109] by decide +kernel))).1
def FKEYS : List Str := ["cut", "write", "read", "look", "store", "test", "sync", "lock", "unlock"]
theorem form_none {x : Str} (h : x ∉ FKEYS) : formS x = none := by
  unfold FKEYS at h
  simp only [List.mem_cons, List.not_mem_nil, or_false, not_or] at h
  obtain ⟨h1, h2, h3, h4, h5, h6, h7, h8, h9⟩ := h
  have n : ∀ {y : Str}, ¬ x = y → (x == y) = false := fun hn => beq_eq_false_iff_ne.mpr hn
  simp only [formS, FTAB, List.lookup_cons, n h1, n h2, n h3, n h4, n h5, n h6, n h7, n h8, n h9, List.lookup_nil]
theorem form_len {x f : Str} (h : formS x = some f) : f.length ≤ 3 ∧ 1 ≤ f.length :=
  (by decide +kernel : ∀ p ∈ FTAB, p.2.length ≤ 3 ∧ 1 ≤ p.2.length) _ (lookup_mem h)
theorem form_val {x f : Str} (h : formS x = some f) : (x, He.Dv.str f) ∈ FTAB.map fun p => (p.1, He.Dv.str p.2) := List.mem_map.mpr ⟨_, lookup_mem h, rfl⟩
theorem zip_range {α β : Type} (a : Array α) (b : List β) (h : a.size = b.length) (d : α) (e : β) (f : α × β → Bool) : ((List.range a.size).map fun i => f (a.getD i d, b.getD i e)).all id = (a.toList.zip b).all f := by
  rw [List.all_map, Bool.eq_iff_iff, List.all_eq_true, List.all_eq_true]
  constructor
  · intro hh z hz
    obtain ⟨i, hi, rfl⟩ := List.mem_iff_getElem.mp hz
    have h1 : i < a.size := by
      rw [List.length_zip, Array.length_toList] at hi
      omega
    have := hh i (List.mem_range.mpr h1)
    rw [List.getElem_zip]
    simpa [List.getD_eq_getElem?_getD, Array.getD_eq_getD_getElem?, h1, h ▸ h1] using this
  · intro hh i hi
    have h1 : i < a.size := List.mem_range.mp hi
    have h2 : i < b.length := h ▸ h1
    have := hh (a[i], b[i]) (List.mem_iff_getElem.mpr ⟨i, by rw [List.length_zip, Array.length_toList]; omega, by rw [List.getElem_zip]; simp⟩)
    simpa [List.getD_eq_getElem?_getD, Array.getD_eq_getD_getElem?, h1, h2] using this
end G

namespace G
open PySem PySem.Spec PyProof.Rows L2
theorem sc_fits : FnScope ["letter", "value"] ["letter", "value"] (defScope s_fits) := ⟨rfl, rfl, rfl, by decide +kernel, rfl, by decide +kernel, by decide +kernel⟩
section
variable {P : Program} {w : World} {K : PySem.W.Frag} {mg : Str → Option Value} {base : Heap}
theorem fn_fits (T : Tx w K mg)  {fd : FuncData} (F : FunD K d_fits.name d_fits.qual d_fits.params d_fits.body d_fits.scope (d_fits.dvs K) (d_fits.kws K) (He.fAd K d_fits.at_) fd) : FnOk P w K mg base CX0 5 (He.fAd K d_fits.at_) fd ["letter", "value"] (sp_fits K) := by
  refine F.ok sc_fits (fun vs H Q E h => ?_) (fun cdv A outer s H vs Q E hr h => ?_)
  · exact lenOf h
  · have hu := hu_of hr
    have hu64 := hr.units
    have sz : 100000 ≤ sizeLine := by decide
    have C_is_place := cal_is_place (P := P) (w := w) (base := base) T
    have C_is_mark := cal_is_mark (P := P) (w := w) (base := base) T
    have C_is_name := cal_is_name (P := P) (w := w) (base := base) T
    refine ⟨_, PSs.nox (pss_cons (ps_if (pt_cmpR op_eq (pv 0) pe_str (nomark _)) (pss_one (ps_ret (C8.pe_c C_is_place hr (by decide) rfl (pa_cons (pv 1) pa_nil)))) pss_nil)
      (pss_cons (ps_if (pt_cmpR op_eq (pv 0) pe_str (nomark _)) (pss_one (ps_ret (C8.pe_c C_is_mark hr (by decide) rfl (pa_cons (pv 1) pa_nil)))) pss_nil)
      (pss_one (ps_ret (C8.pe_c C_is_name hr (by decide) rfl (pa_cons (pv 1) pa_nil)))))), ?_⟩
    obtain ⟨_, c, v, t, rfl, ht, q⟩ := h
    refine ⟨_, rfl, rfl, _, rfl, ?_⟩
    rw [one_p]
    by_cases h1 : c = 112
    · rw [decide_eq_true h1]
      refine iteT ⟨_, rfl, rfl, v, t, rfl, ht, fun H1 s1 => ?_⟩
      have e : fitsT c (v, t) = (pairT t).isSome := if_pos h1
      rw [← e]
      exact q H1 s1
    · rw [decide_eq_false h1]
      refine iteF ⟨_, rfl, rfl, _, rfl, ?_⟩
      rw [one_m]
      have ov := th_okv T.cl_Place T.i_Place ht
      by_cases h2 : c = 109
      · rw [decide_eq_true h2]
        refine iteT ⟨_, rfl, rfl, v, rfl, ov, fun H1 s1 => ?_⟩
        have e : fitsT c (v, t) = markV v := by unfold fitsT; rw [if_neg h1, if_pos h2]
        rw [← e]
        exact q H1 s1
      · rw [decide_eq_false h2]
        refine iteF ⟨_, rfl, rfl, v, rfl, ov, fun H1 s1 => ?_⟩
        have e : fitsT c (v, t) = nameV v := by unfold fitsT; rw [if_neg h1, if_neg h2]
        rw [← e]
        exact q H1 s1
theorem cal_fits (T : Tx w K mg)  : C8.Cal P w K mg base 5 "fits" (sp_fits K) [] := by
  obtain ⟨fd, F⟩ := T.d_fits
  exact ⟨_, fd, ["letter", "value"], [], fn_fits T  F, T.g_fits, F.kp, FunD.bindsN (ps := ["letter", "value"]) F (fun _ _ _ _ _ _ us hl => match us, hl with | [_, _], _ => rfl), .nil⟩

end
end G
namespace G
open PySem PySem.Spec PyProof.Rows L2
theorem sc_is_step : FnScope ["value", "form", "letter", "item"] ["value"] (defScope s_is_step) := ⟨rfl, rfl, rfl, by decide +kernel, rfl, by decide +kernel, by decide +kernel⟩
section
variable {P : Program} {w : World} {K : PySem.W.Frag} {mg : Str → Option Value} {base : Heap}
theorem fn_is_step (T : Tx w K mg)  {fd : FuncData} (F : FunD K d_is_step.name d_is_step.qual d_is_step.params d_is_step.body d_is_step.scope (d_is_step.dvs K) (d_is_step.kws K) (He.fAd K d_is_step.at_) fd) : FnOk P w K mg base CX0 6 (He.fAd K d_is_step.at_) fd ["value"] (sp_is_step K) := by
  refine F.ok sc_is_step (fun vs H Q E h => ?_) (fun cdv A outer s H vs Q E hr h => ?_)
  · exact lenOf h
  · have hu := hu_of hr
    have hu64 := hr.units
    have sz : 100000 ≤ sizeLine := by decide
    have C_fits := cal_fits (P := P) (w := w) (base := base) T
    obtain ⟨esF, nF, kdF⟩ := T.k_FORMS
    refine ⟨_, PSs.nox (pss_cons (ps_if (PW.pt (pw_or (pt_not (pt_val (pe_callB call_isi rfl T.f_isinstance PyProof.Rows.boot_isinstance (pa_cons (pv 0) (pa_cons (pe_bltn (v := .ty "tuple") rfl T.f_tuple (by decide +kernel) rfl) pa_nil))))) (pw_or1 (pt_cmpR op_eq (pe_callB call_len_seq rfl T.f_len PySem.boot_len (pa_cons (pv 0) pa_nil)) pe_int (nomark _))))) (pss_one (ps_ret pe_bl)) pss_nil)
      (pss_cons (ps_if (PW.pt (pw_or (pt_not (pt_val (pe_callB call_isi rfl T.f_isinstance PyProof.Rows.boot_isinstance (pa_cons (pe_ix ix_tup (pv 0) pe_int (fun _ _ => rfl)) (pa_cons (pe_bltn (v := .ty "str") rfl T.f_str PyProof.Rows.boot_str rfl) pa_nil))))) (pw_or1 (pt_cmpR (op_notIn_kd kdF) (pe_ix ix_tup (pv 0) pe_int (fun _ _ => rfl)) (C8.pe_gc (v := .ref (He.ga K "FORMS")) rfl T.c_FORMS) rfl)))) (pss_one (ps_ret pe_bl)) pss_nil)
      (pss_cons (ps_set (i := 1) sc_is_step.nd rfl (Or.inl rfl) (pe_ix ix_kdict (C8.pe_gc (v := .ref (He.ga K "FORMS")) rfl T.c_FORMS) (pe_ix ix_tup (pv 0) pe_int (fun _ _ => rfl)) (fun _ _ => rfl)))
      (pss_cons (ps_if (pt_cmpR op_ne (pe_callB call_len_seq rfl T.f_len PySem.boot_len (pa_cons (pv 0) pa_nil)) (pe_op op_add (pe_callB call_len_str rfl T.f_len PySem.boot_len (pa_cons (pv 1) pa_nil)) pe_int) (nomark _)) (pss_one (ps_ret pe_bl)) pss_nil)
      (pss_one (ps_ret (pe_callB (cr_all rfl) rfl T.f_all PyProof.Rows.boot_all (pa_cons (pe_lc (own := [("letter", 2), ("item", 3)]) (g := gTup K 2 (gCons (gName 2) (gCons (gName 3) gNil))) (tt := tYes) rfl sc_is_step.nd (pi_zipS rfl T.f_zip (pa_cons (pv 1) (pa_cons (pe_slice sl_tupA (pv 0) (po_some pe_int) po_none) pa_nil))) (blkOk_by (N := ["value", "form", "letter", "item"]) (sc := defScope s_is_step) (by decide +kernel)) (fun _ _ _ _ _ => (pg_tup rfl (pgs_cons (pg_name (i := 2) sc_is_step.nd rfl (Or.inl rfl) (Or.inr rfl)) (pgs_cons (pg_name (i := 3) sc_is_step.nd rfl (Or.inl rfl) (Or.inr rfl)) pgs_nil)))) (fun _ _ _ _ _ => pts_nil) (fun _ _ _ _ _ => (C8.pe_c C_fits hr (by decide) rfl (pa_cons (pv 2) (pa_cons (pv 3) pa_nil))))) pa_nil)))))))), ?_⟩
    obtain ⟨_, v, o, rfl, ho, q⟩ := h
    cases o with
    | none =>
      obtain ⟨t, ty, k⟩ := ho
      refine ⟨_, rfl, _, _, t, _, false, rfl, .ty _, ty, k, _, rfl, iteT (iteT (q H Same.rfl'))⟩
    | some ps =>
      obtain ⟨⟨a, rfl, ha⟩, hth, hlen⟩ := ho
      have hq := tup_sq (K := K) ha
      refine ⟨_, rfl, _, _, _, _, true, rfl, .ty _, .base (.tup ha), kit_ty (r := true) (by decide +kernel), _, rfl, iteF ?_⟩
      refine ⟨_, rfl, a, _, rfl, .inr hq, rfl, _, rfl, ?_⟩
      match ps, ha, hth, hlen, hq, q with
      | [], _, _, _, _, q =>
        rw [decide_eq_true (by rfl)]
        exact iteT (q H Same.rfl')
      | (x, t) :: r, ha, hth, hlen, hq, q =>
        have hx : ThAt K H x t := hth _ List.mem_cons_self
        rw [decide_eq_false (by intro e; have e2 := V.int.inj e; rw [List.map_cons, List.length_cons] at e2; omega)]
        refine iteF ?_
        obtain ⟨⟨t1, ty1, _, _, k3⟩, _⟩ := th_okv T.cl_Place T.i_Place hx
        have at0 : atI (x :: r.map Prod.fst) ((0 : Nat) : Int) = some x := atI_nat rfl
        refine ⟨_, rfl, a, _, _, _, rfl, rfl, hq, at0, _, _, t1, _, _, rfl, .ty _, ty1, k3, _, rfl, ?_⟩
        cases x with
        | str z =>
          refine iteF ⟨_, rfl, a, _, _, _, rfl, rfl, hq, at0, ?_⟩
          have vf := T.v_FORMS
          cases hf : formS z with
          | none =>
            have e : stepO (some ((V.str z, t) :: r)) = false := by
              simp only [stepO, stepP, hf]
            rw [e] at q
            have nz : z ∉ FKEYS := fun hm => by
              have : ∀ y ∈ FKEYS, formS y ≠ none := by decide +kernel
              exact this z hm hf
            refine ⟨z, none, rfl, rfl, only_ok vf.1 nz, _, rfl, iteT (q H Same.rfl')⟩
          | some f =>
            obtain ⟨u, e1, e2⟩ := He.valsB_ok vf.2 (form_val hf)
            refine ⟨z, some u, rfl, rfl, e1, _, rfl, iteF ?_⟩
            refine ⟨_, rfl, a, _, _, _, rfl, rfl, hq, at0, _, _, _, rfl, rfl, ⟨esF, nF, u, kdF.at_, kdF.lit, e1, e2⟩, ?_⟩
            obtain ⟨l3, l1⟩ := form_len hf
            refine ⟨_, rfl, a, _, rfl, .inr hq, _, rfl, f, rfl, by omega, _, _, rfl, rfl, rfl, ?_⟩
            refine ⟨_, rfl, ?_⟩
            have e0 : stepO (some ((V.str z, t) :: r)) = (decide (r.length = f.length) && (f.cps.toList.zip r).all fun y => fitsT y.1 y.2) := by simp only [stepO, stepP, hf]
            rw [e0] at q
            by_cases hl : r.length = f.length
            · rw [decide_eq_true (by rw [List.map_cons, List.length_cons, List.length_map, hl]; rfl)]
              refine iteF ⟨_, rfl, _, rfl, _, rfl, ?_⟩
              refine slA_n ⟨a, rfl, ha⟩ fun u2 H2 s2 h2 => ?_
              obtain ⟨b, rfl, hb⟩ := h2
              have ec : cutV (List.map Prod.fst ((V.str z, t) :: r)) (some 1) none = r.map Prod.fst := by
                unfold cutV
                rw [show HT.sIx (List.map Prod.fst ((V.str z, t) :: r)).length 0 (some 1) = 1 by rw [show (1 : Int) = ((1 : Nat) : Int) from rfl, HT.sIx_nat, List.map_cons, List.length_cons]; omega, HT.sIx_none, List.map_cons, List.drop_succ_cons, List.drop_zero, List.length_cons, Nat.add_sub_cancel, List.take_length]
              rw [ec] at hb
              have hz : f.cps.size = (r.map Prod.fst).length := by rw [List.length_map, hl]; rfl
              refine ⟨_, _, _, rfl, tup_sq hb, fun D hD => lc_zipS hz (fun i => .bl (fitsT (f.cps.getD i 0) (r.getD i (.non, .oth)))) ?_ hD (tup_sq hb) ?_ ?_ ?_⟩
              · exact Nat.le_trans l3 (by decide)
              · intro _ _; rfl
              · intro i H1 c y hc hy s1 Q' hq'
                rw [List.getElem?_map] at hy
                obtain ⟨p, hp, rfl⟩ := Option.map_eq_some_iff.mp hy
                refine ⟨_, rfl, _, rfl, rfl, c, p.1, p.2, rfl, ?_, fun H3 s3 => ?_⟩
                · exact (hth p (List.mem_cons_of_mem _ (List.mem_of_getElem? hp))).same (Same.tr s2 s1)
                · have := hq' H3 s3
                  rw [show f.cps.getD i 0 = c by rw [Array.getD_eq_getD_getElem?, hc]; rfl, show r.getD i (.non, .oth) = p by rw [List.getD_eq_getElem?_getD, hp]; rfl] at this
                  exact this
              · intro H3 s3 hL
                refine ⟨_, (List.range f.cps.size).map (fun i => fitsT (f.cps.getD i 0) (r.getD i (.non, .oth))), rfl, lst_sq (by rw [hL, List.map_map]; rfl), ?_⟩
                rw [zip_range f.cps r (by rw [hl]; rfl) 0 (.non, .oth) fun y => fitsT y.1 y.2]
                rw [decide_eq_true hl, Bool.true_and] at q
                exact q H3 (Same.tr s2 s3)
            · rw [decide_eq_false (by intro e; have e2 := V.int.inj e; rw [List.map_cons, List.length_cons, List.length_map] at e2; omega)]
              rw [decide_eq_false hl, Bool.false_and] at q
              exact iteT (q H Same.rfl')
        | _ => exact iteT (iteT (q H Same.rfl'))
theorem cal_is_step (T : Tx w K mg)  : C8.Cal P w K mg base 6 "is_step" (sp_is_step K) [] := by
  obtain ⟨fd, F⟩ := T.d_is_step
  exact ⟨_, fd, ["value"], [], fn_is_step T  F, T.g_is_step, F.kp, FunD.bindsN (ps := ["value"]) F (fun _ _ _ _ _ _ us hl => match us, hl with | [_], _ => rfl), .nil⟩
theorem kw_is_step (T : Tx w K mg) : CalK P w K mg base 6 "is_step" (sp_is_step K) 0 ["value"] (fun _ zs => zs) := by
  obtain ⟨fd, F⟩ := T.d_is_step
  exact ⟨_, fd, ["value"], _, fn_is_step T F, T.g_is_step, F.kp, FunD.kbindsN (ps := ["value"]) F 0 ["value"] (fun _ zs => zs) (fun _ r => r) (fun _ _ _ _ _ _ us ws h1 h2 => match us, ws, h1, h2 with | [], [_], _, _ => rfl)⟩

end
end G
namespace G
open PySem PySem.Spec PyProof.Rows L2
/-! ### the law's own defs -/
def sp_cell (K : PySem.W.Frag) : Sp := fun vs H Q _ => vs.length = 2 ∧ ∃ (a : Addr) (ns : List Int) (k : Nat), vs = [.ref a, .int k] ∧ SqL K H a (ns.map V.int) ∧ k ≤ 100 ∧ ∀ c : Int, Q (.int c) H
/-- the box: what is left of the cell, the seed, how many were drawn -/
def Bx (H : Hp) (p : Addr) (N : Nat) : Prop := ∃ a b n : Int, H p = some (.lst [.int a, .int b, .int n]) ∧ 0 ≤ a ∧ 0 ≤ b ∧ b < 2147483563 ∧ 0 ≤ n ∧ n ≤ N
theorem Bx.mono {H : Hp} {p : Addr} {N M : Nat} (h : Bx H p N) (l : N ≤ M) : Bx H p M := by
  obtain ⟨a, b, n, h1, h2, h3, h4, h5, h6⟩ := h
  exact ⟨a, b, n, h1, h2, h3, h4, h5, by omega⟩
theorem Bx.same {H H' : Hp} {p : Addr} {N : Nat} (h : Bx H p N) (s : Same H H') : Bx H' p N := by
  obtain ⟨a, b, n, h1, h2⟩ := h
  exact ⟨a, b, n, s _ _ h1, h2⟩
/-- all but p is as it was -/
def But (p : Addr) (H H' : Hp) : Prop := ∀ a o, H a = some o → a ≠ p → H' a = some o
theorem But.tr {p : Addr} {H H1 H2 : Hp} (a : But p H H1) (b : But p H1 H2) : But p H H2 := fun x o e n => b x o (a x o e n) n
theorem But.of {p : Addr} {H H1 : Hp} (a : Same H H1) : But p H H1 := fun x o e _ => a x o e
theorem But.same {p : Addr} {H H1 H2 : Hp} (a : But p H H1) (b : Same H1 H2) : But p H H2 := a.tr (.of b)
theorem But.new {p q : Addr} {o : HO} {H H1 : Hp} (a : But p H H1) (h : H1 q = none) : But p H (upd H1 q o) := a.same (Same.new h)
theorem But.chg {p : Addr} {o : HO} {H H1 : Hp} (a : But p H H1) : But p H (upd H1 p o) := fun x u e n => by
  rw [upd_ne n]
  exact a x u e n
/-- what is not known to H and lies at q may change -/
theorem But.chg' {p q : Addr} {o : HO} {H H1 : Hp} (a : But p H H1) (h : H q = none) : But p H (upd H1 q o) := fun x u e n => by
  rw [upd_ne (ne_of_none e h)]
  exact a x u e n
theorem But.sqL {K : PySem.W.Frag} {p a : Addr} {H H' : Hp} {xs : List V} (e : But p H H') (n : a ≠ p) (h : SqL K H a xs) : SqL K H' a xs := by
  rcases h with (h | ⟨o, h⟩) | h
  · exact Or.inl (Or.inl (e _ _ h n))
  · exact Or.inl (Or.inr ⟨o, e _ _ h n⟩)
  · exact Or.inr h
theorem But.free {p q : Addr} {H H1 : Hp} (a : But p H H1) (h : H1 q = none) (n : q ≠ p) : H q = none := by
  cases e : H q with
  | none => rfl
  | some o => rw [a q o e n] at h; exact nomatch h
def sp_box : Sp := fun vs H Q _ => vs.length = 1 ∧ ∃ c : Int, vs = [.int c] ∧ ∀ (p : Addr) (H' : Hp), H p = none → Same H H' → Bx H' p 0 → Q (.ref p) H'
def sp_take : Sp := fun vs H Q _ => vs.length = 2 ∧ ∃ (p : Addr) (m : Int) (N : Nat), vs = [.ref p, .int m] ∧ Bx H p N ∧ N ≤ 10000 ∧ 0 < m ∧ m < 1073741824 ∧
  ∀ (r : Int) (H' : Hp), 0 ≤ r → r < m → Bx H' p (N + 1) → But p H H' → Q (.int r) H'
/-- the box is another thing than what is new -/
theorem Bx.ne {H : Hp} {p q : Addr} {N : Nat} (h : Bx H p N) (hq : H q = none) : p ≠ q := by
  obtain ⟨_, _, _, hp, _⟩ := h
  exact ne_of_none hp hq
/-- nothing but p has changed, and p was not known -/
theorem But.to {p : Addr} {H H1 : Hp} (a : But p H H1) (n : H p = none) : Same H H1 := fun x o e => a x o e (fun z => by rw [z, n] at e; exact nomatch e)
def sp_law (K : PySem.W.Frag) : Sp := fun vs H Q _ => vs.length = 1 ∧ ∃ (a : Addr) (ns : List Int), vs = [.ref a] ∧ SqL K H a (ns.map V.int) ∧ ns.length ≤ 63 ∧ ∀ H', Q (.bl true) H'
end G
namespace G
open PySem PySem.Spec PyProof.Rows L2
/-! #### what is known but the box -/
def wo (p : Addr) (H : Hp) : Hp := fun a => if a = p then none else H a
theorem wo_ne {p a : Addr} {H : Hp} (h : a ≠ p) : wo p H a = H a := if_neg h
theorem wo_same (p : Addr) (H : Hp) : Same (wo p H) H := fun a o e => by
  by_cases h : a = p
  · rw [wo, if_pos h] at e; exact nomatch e
  · rw [wo_ne h] at e; exact e
theorem But.wo {p : Addr} {H H' : Hp} (b : But p H H') : Same (G.wo p H) (G.wo p H') := fun a o e => by
  by_cases h : a = p
  · rw [G.wo, if_pos h] at e; exact nomatch e
  · rw [wo_ne h] at e ⊢; exact b a o e h
theorem Same.wo {p : Addr} {H H' : Hp} (s : Same H H') : Same (G.wo p H) (G.wo p H') := But.wo (.of s)
theorem But.at {p a : Addr} {H H' : Hp} {o : HO} (b : But p H H') (h : H a = some o) (n : a ≠ p) : H' a = some o := b a o h n
end G

namespace G
open PySem PySem.Spec PyProof.Rows L2
theorem sc__law_cell : FnScope ["_law_script", "_law_k"] ["_law_script", "_law_k"] (defScope s__law_cell) := ⟨rfl, rfl, rfl, by decide +kernel, rfl, by decide +kernel, by decide +kernel⟩
section
variable {P : Program} {w : World} {K : PySem.W.Frag} {mg : Str → Option Value} {base : Heap}
theorem fn__law_cell (T : Tx w K mg)  {fd : FuncData} (F : FunD K d__law_cell.name d__law_cell.qual d__law_cell.params d__law_cell.body d__law_cell.scope (d__law_cell.dvs K) (d__law_cell.kws K) (He.fAd K d__law_cell.at_) fd) : FnOk P w K mg base CX0 1 (He.fAd K d__law_cell.at_) fd ["_law_script", "_law_k"] (sp_cell K) := by
  refine F.ok sc__law_cell (fun vs H Q E h => ?_) (fun cdv A outer s H vs Q E hr h => ?_)
  · exact lenOf h
  · have hu := hu_of hr
    have hu64 := hr.units
    have sz : 100000 ≤ sizeLine := by decide
    refine ⟨_, PSs.nox (pss_one (ps_ret (pe_ifExp (pt_cmpR op_lt (pv 1) (pe_callB call_len_seq rfl T.f_len PySem.boot_len (pa_cons (pv 0) pa_nil)) (nomark _)) (pe_ix ix_list (pv 0) (pv 1) (fun _ _ => rfl)) (pe_op op_add (pe_op op_mul pe_int (pv 1)) pe_int)))), ?_⟩
    obtain ⟨_, a, ns, k, rfl, hS, hk, q⟩ := h
    refine ⟨_, rfl, _, rfl, a, _, rfl, .inl hS, _, _, rfl, rfl, _, rfl, ?_⟩
    rw [List.length_map]
    refine ite2 (fun z => ?_) (fun z => ?_)
    · have z2 : k < ns.length := by have := of_decide_eq_true z; omega
      refine ⟨_, rfl, _, rfl, a, _, _, _, rfl, rfl, hS, atI_nat (v := .int ns[k]) (by rw [List.getElem?_map, List.getElem?_eq_getElem z2]; rfl), q _⟩
    · refine ⟨_, rfl, _, _, rfl, rfl, .inl ⟨by decide, by decide⟩, _, _, rfl, rfl, q _⟩
theorem cal__law_cell (T : Tx w K mg)  : C8.Cal P w K mg base 1 "_law_cell" (sp_cell K) [] := by
  obtain ⟨fd, F⟩ := T.d__law_cell
  exact ⟨_, fd, ["_law_script", "_law_k"], [], fn__law_cell T  F, T.g__law_cell, F.kp, FunD.bindsN (ps := ["_law_script", "_law_k"]) F (fun _ _ _ _ _ _ us hl => match us, hl with | [_, _], _ => rfl), .nil⟩

end
end G
namespace G
open PySem PySem.Spec PyProof.Rows L2
theorem sc__law_box : FnScope ["_law_cell_here"] ["_law_cell_here"] (defScope s__law_box) := ⟨rfl, rfl, rfl, by decide +kernel, rfl, by decide +kernel, by decide +kernel⟩
section
variable {P : Program} {w : World} {K : PySem.W.Frag} {mg : Str → Option Value} {base : Heap}
theorem fn__law_box (T : Tx w K mg)  {fd : FuncData} (F : FunD K d__law_box.name d__law_box.qual d__law_box.params d__law_box.body d__law_box.scope (d__law_box.dvs K) (d__law_box.kws K) (He.fAd K d__law_box.at_) fd) : FnOk P w K mg base CX0 1 (He.fAd K d__law_box.at_) fd ["_law_cell_here"] sp_box := by
  refine F.ok sc__law_box (fun vs H Q E h => ?_) (fun cdv A outer s H vs Q E hr h => ?_)
  · exact lenOf h
  · have hu := hu_of hr
    have hu64 := hr.units
    have sz : 100000 ≤ sizeLine := by decide
    refine ⟨_, PSs.nox (pss_one (ps_ret (pe_lst (pa_cons (pe_callB (call_max2 rfl) rfl T.f_max PyProof.Rows.boot_max (pa_cons pe_int (pa_cons (pe_op op_sub (pv 0) (pe_op op_pow pe_int pe_int)) pa_nil))) (pa_cons (pe_op op_mod (pe_callTy call_int1 rfl T.f_int PyProof.Rows.boot_int (pa_cons (pv 0) pa_nil)) pe_int) (pa_cons pe_int pa_nil)))))), ?_⟩
    obtain ⟨_, c, rfl, q⟩ := h
    refine ⟨_, rfl, _, _, rfl, rfl, ⟨by decide, by decide, by decide⟩, _, _, rfl, rfl, _, _, rfl, _, rfl, .inl ⟨_, rfl, _, _, rfl, rfl, (by show (0 : Int) < 2147483563; decide), (by show 3 ≤ sizeLine; decide), fun p hp => ?_⟩⟩
    refine q p _ hp (Same.new hp) ⟨_, _, _, upd_same, ?_, ?_, ?_, ?_, ?_⟩
    · split <;> omega
    · exact Int.emod_nonneg _ (by decide)
    · exact Int.emod_lt_of_pos _ (by decide)
    · exact Int.le_refl 0
    · exact Int.le_refl 0
theorem cal__law_box (T : Tx w K mg)  : C8.Cal P w K mg base 1 "_law_box" sp_box [] := by
  obtain ⟨fd, F⟩ := T.d__law_box
  exact ⟨_, fd, ["_law_cell_here"], [], fn__law_box T  F, T.g__law_box, F.kp, FunD.bindsN (ps := ["_law_cell_here"]) F (fun _ _ _ _ _ _ us hl => match us, hl with | [_], _ => rfl), .nil⟩

end
end G
namespace G
open PySem PySem.Spec PyProof.Rows L2
theorem sc__law_take : FnScope ["_law_box_here", "_law_many", "_law_digit", "_law_mixed"] ["_law_box_here", "_law_many"] (defScope s__law_take) := ⟨rfl, rfl, rfl, by decide +kernel, rfl, by decide +kernel, by decide +kernel⟩
section
variable {P : Program} {w : World} {K : PySem.W.Frag} {mg : Str → Option Value} {base : Heap}
theorem fn__law_take (T : Tx w K mg)  {fd : FuncData} (F : FunD K d__law_take.name d__law_take.qual d__law_take.params d__law_take.body d__law_take.scope (d__law_take.dvs K) (d__law_take.kws K) (He.fAd K d__law_take.at_) fd) : FnOk P w K mg base CX0 1 (He.fAd K d__law_take.at_) fd ["_law_box_here", "_law_many"] sp_take := by
  refine F.ok sc__law_take (fun vs H Q E h => ?_) (fun cdv A outer s H vs Q E hr h => ?_)
  · exact lenOf h
  · have hu := hu_of hr
    have hu64 := hr.units
    have sz : 100000 ≤ sizeLine := by decide
    refine ⟨_, PSs.nox (pss_cons (ps_if (pt_cmpR op_gt (pe_ix ix_list (pv 0) pe_int (fun _ _ => rfl)) pe_int (nomark _)) (pss_cons (ps_set (i := 2) sc__law_take.nd rfl (Or.inl rfl) (pe_op op_mod (pe_callTy call_int1 rfl T.f_int PyProof.Rows.boot_int (pa_cons (pe_ix ix_list (pv 0) pe_int (fun _ _ => rfl)) pa_nil)) (pv 1)))
      (pss_cons (ps_asg (pe_op op_fdiv (pe_ix ix_list (pv 0) pe_int (fun _ _ => rfl)) (pv 1)) (pg_sub (pv 0) pe_int set_list))
      (pss_one (ps_ret (pv 2))))) pss_nil)
      (pss_cons (ps_asg (pe_op op_add (pe_ix ix_list (pv 0) pe_int (fun _ _ => rfl)) pe_int) (pg_sub (pv 0) pe_int set_list))
      (pss_cons (ps_set (i := 3) sc__law_take.nd rfl (Or.inl rfl) (pe_op op_mod (pe_op op_pow (pe_callTy call_int1 rfl T.f_int PyProof.Rows.boot_int (pa_cons (pe_op op_add (pe_op op_add (pe_ix ix_list (pv 0) pe_int (fun _ _ => rfl)) (pe_op op_mul pe_int (pe_ix ix_list (pv 0) pe_int (fun _ _ => rfl)))) pe_int) pa_nil)) pe_int) pe_int))
      (pss_cons (ps_set (i := 3) sc__law_take.nd rfl (Or.inl rfl) (pe_op op_mod (pe_op op_pow (pe_callTy call_int1 rfl T.f_int PyProof.Rows.boot_int (pa_cons (pe_op op_add (pv 3) (pe_op op_mul pe_int (pe_ix ix_list (pv 0) pe_int (fun _ _ => rfl)))) pa_nil)) pe_int) pe_int))
      (pss_one (ps_ret (pe_op op_mod (pe_op op_fdiv (pv 3) pe_int) (pv 1)))))))), ?_⟩
    obtain ⟨_, p, m, N, rfl, ⟨a, b, n, hp, ha, hb1, hb2, hn1, hn2⟩, hN, hm1, hm2, q⟩ := h
    have ix : ∀ {H' : Hp} {x y z : V}, H' p = some (.lst [x, y, z]) → SqL K H' p [x, y, z] := fun e => lst_sq e
    refine ⟨_, rfl, p, _, _, _, rfl, rfl, ix hp, rfl, _, _, rfl, rfl, _, rfl, ?_⟩
    refine ite2 (fun z => ?_) (fun z => ?_)
    · refine ⟨_, rfl, p, _, _, _, rfl, rfl, ix hp, rfl, .inl ⟨_, rfl, _, rfl, _, _, rfl, rfl, hm1, ?_⟩⟩
      refine ⟨_, rfl, p, _, _, _, rfl, rfl, ix hp, rfl, _, rfl, _, _, rfl, rfl, ⟨hm1, hm2⟩, _, rfl, p, _, _, _, rfl, rfl, hp, rfl, ?_⟩
      refine ⟨_, rfl, ?_⟩
      refine q _ _ (Int.emod_nonneg _ (by omega)) (Int.emod_lt_of_pos _ hm1) ⟨_, b, n, upd_same, Int.ediv_nonneg ha (by omega), hb1, hb2, hn1, by omega⟩ ?_
      exact But.chg (But.of Same.rfl')
    · refine ⟨_, rfl, p, _, _, _, rfl, rfl, ix hp, rfl, _, _, rfl, rfl, _, rfl, p, _, _, _, rfl, rfl, hp, rfl, ?_⟩
      refine ⟨_, rfl, p, _, _, _, rfl, rfl, ix upd_same, rfl, _, rfl, p, _, _, _, rfl, rfl, ix upd_same, rfl, _, _, rfl, rfl, .inl ⟨by decide, by decide⟩, _, _, rfl, rfl, _, _, rfl, rfl, .inl ⟨_, rfl, ?_⟩⟩
      refine ⟨_, _, rfl, rfl, ⟨by decide, by decide, by omega⟩, _, _, rfl, rfl, (by show (0 : Int) < 2147483647; decide), ?_⟩
      have hr1 := Int.emod_nonneg ((b + 7433 * (n + 1) + 283) ^ 5) (by decide : (2147483647 : Int) ≠ 0)
      have hr2 := Int.emod_lt_of_pos ((b + 7433 * (n + 1) + 283) ^ 5) (by decide : (0 : Int) < 2147483647)
      refine ⟨_, rfl, _, rfl, p, _, _, _, rfl, rfl, ix upd_same, rfl, _, _, rfl, rfl, .inl ⟨by decide, by decide⟩, _, _, rfl, rfl, .inl ⟨_, rfl, ?_⟩⟩
      refine ⟨_, _, rfl, rfl, ⟨by decide, by decide, ?_⟩, _, _, rfl, rfl, (by show (0 : Int) < 2147483587; decide), ?_⟩
      · show ((b + 7433 * (n + 1) + 283) ^ 5 % 2147483647 + 104729 * (n + 1)).natAbs < 2 ^ 64
        omega
      · refine ⟨_, rfl, _, _, rfl, rfl, ⟨by decide, by decide⟩, _, rfl, _, _, rfl, rfl, hm1, ?_⟩
        exact q _ _ (Int.emod_nonneg _ (by omega)) (Int.emod_lt_of_pos _ hm1) ⟨a, b, n + 1, upd_same, ha, hb1, hb2, by omega, by omega⟩ (But.chg (But.of Same.rfl'))
theorem cal__law_take (T : Tx w K mg)  : C8.Cal P w K mg base 1 "_law_take" sp_take [] := by
  obtain ⟨fd, F⟩ := T.d__law_take
  exact ⟨_, fd, ["_law_box_here", "_law_many"], [], fn__law_take T  F, T.g__law_take, F.kp, FunD.bindsN (ps := ["_law_box_here", "_law_many"]) F (fun _ _ _ _ _ _ us hl => match us, hl with | [_, _], _ => rfl), .nil⟩

end
end G
namespace G
open PySem PySem.Spec PyProof.Rows L2
/-! ### texts of places, made of a name -/
def sg (x : Str) : List Nat := x.cps.toList
theorem sg_len (x : Str) : (sg x).length = x.length := Array.length_toList
theorem sg_app (x y : Str) : sg (x ++ y) = sg x ++ sg y := TL.tl_append x y
theorem sg_ext {x y : Str} (h : sg x = sg y) : x = y := by
  obtain ⟨a⟩ := x
  obtain ⟨b⟩ := y
  exact congrArg Str.mk (Array.toList_inj.mp h)
theorem abc_iff (c : Nat) : c ∈ ABC.cps.toList ↔ 97 ≤ c ∧ c ≤ 122 := by
  rw [show ABC.cps.toList = [97, 98, 99, 100, 101, 102, 103, 104, 105, 106, 107, 108, 109, 110, 111, 112, 113, 114, 115, 116, 117, 118, 119, 120, 121, 122] by decide +kernel]
  simp only [List.mem_cons, List.not_mem_nil, or_false]
  omega
theorem name_sg {x : Str} (h : nameS x = true) {c : Nat} (hc : c ∈ sg x) : 97 ≤ c ∧ c ≤ 122 := by
  unfold nameS at h
  rw [Bool.and_eq_true, List.all_eq_true] at h
  exact (abc_iff c).mp (of_decide_eq_true (h.2 c hc))
theorem noname {x : Str} {c : Nat} (hc : c ∈ sg x) (h : ¬ (97 ≤ c ∧ c ≤ 122)) : nameS x = false := by
  cases e : nameS x with
  | false => rfl
  | true => exact absurd (name_sg e hc) h
theorem noname_len {x : Str} (h : x.length = 0 ∨ 6 < x.length) : nameS x = false := by
  cases e : nameS x with
  | false => rfl
  | true =>
    have h1 := nameS_len e
    have h2 := nameS_pos e
    omega
theorem name_ne {x : Str} (h : nameS x = true) : x ≠ "" := fun e => by
  have := nameS_pos h
  rw [e] at this
  exact absurd this (by decide)
theorem name_least {x : Str} (h : nameS x = true) : leastS x = -3 := if_neg (name_ne h)
theorem last1_eq (x : Str) : last1 x = (sg x).getD ((sg x).length - 1) 0 := by rw [sg_len] <;> rfl
theorem last2_eq (x : Str) : last2 x = (sg x).getD ((sg x).length - 2) 0 := by rw [sg_len] <;> rfl
theorem last1_mem {x : Str} (h : 1 ≤ x.length) : last1 x ∈ sg x := by
  rw [last1_eq, List.getD_eq_getElem?_getD, List.getElem?_eq_getElem (by rw [sg_len]; omega)]
  exact List.getElem_mem _
theorem last1_app (a b : Str) (h : 1 ≤ b.length) : last1 (a ++ b) = last1 b := by
  have h2 := sg_len b
  rw [last1_eq, last1_eq, sg_app, List.getD_eq_getElem?_getD, List.getD_eq_getElem?_getD, List.length_append, List.getElem?_append_right (by omega)]
  congr 2
  omega
theorem last2_app (a b : Str) (h : 2 ≤ b.length) : last2 (a ++ b) = last2 b := by
  have h2 := sg_len b
  rw [last2_eq, last2_eq, sg_app, List.getD_eq_getElem?_getD, List.getD_eq_getElem?_getD, List.length_append, List.getElem?_append_right (by omega)]
  congr 2
  omega
theorem cut2_app (a b : Str) (h : b.length = 2) : cut2 (a ++ b) = a := by
  refine sg_ext ?_
  have h2 := sg_len b
  have h1 := sg_len a
  have h3 : (a ++ b).length = a.length + 2 := by rw [str_app, h]
  show List.take (HT.sIx (a ++ b).length (a ++ b).length (some (-2)) - 0) (List.drop 0 (sg (a ++ b))) = sg a
  have e : HT.sIx (a ++ b).length (a ++ b).length (some (-2)) = a.length := by
    unfold HT.sIx
    rw [h3]
    simp only
    rw [if_pos (by decide)]
    omega
  rw [e, List.drop_zero, sg_app, Nat.sub_zero, ← h1, List.take_left]
/-- no place is told -/
theorem parts_none {x : Str} (n : nameS x = false) (h1 : x.length = 1 → last1 x ∉ [48, 49, 50, 51]) (h2 : last1 x ∉ [49, 50, 51] ∨ last2 x ∉ [43, 45]) : partsS x = none := by
  unfold partsS
  rw [if_neg (fun z => h1 z.1 z.2), if_neg (by rw [n]; decide), if_neg]
  intro z
  rcases h2 with h | h
  · exact h z.2.2.1
  · exact h z.2.1
theorem parts_none' {x : Str} (n : nameS x = false) (h : last1 x ∉ [48, 49, 50, 51]) : partsS x = none :=
  parts_none n (fun _ => h) (.inl fun z => h (List.mem_cons_of_mem _ z))
theorem parts_name {x : Str} (h : nameS x = true) : partsS x = some (x, 0) := by
  unfold partsS
  rw [if_neg, if_pos h]
  intro z
  have := name_sg h (last1_mem (nameS_pos h))
  have z2 := z.2
  simp only [List.mem_cons, List.not_mem_nil, or_false] at z2
  omega
theorem parts_dig {c : Nat} (h : c ∈ [48, 49, 50, 51]) : partsS (one c) = some (("" : Str), digS c) := by
  unfold partsS
  rw [if_pos ⟨rfl, h⟩] <;> rfl
/-- a name, a sign, a digit -/
theorem parts_tail {x t : Str} (h : nameS x = true) (l : t.length = 2) (hs : last2 t ∈ [43, 45]) (hd : last1 t ∈ [49, 50, 51]) : partsS (x ++ t) = some (x, (if last2 t = 43 then 1 else -1) * digS (last1 t)) := by
  have e1 := last1_app x t (by omega)
  have e2 := last2_app x t (by omega)
  have e3 := cut2_app x t l
  have e4 : (x ++ t).length = x.length + 2 := by rw [str_app, l]
  have hp := nameS_pos h
  unfold partsS
  rw [if_neg (by rw [e4]; omega), e1, e2, e3, if_neg, if_pos ⟨by omega, hs, hd, h⟩]
  intro z
  have hm : last1 (x ++ t) ∈ sg (x ++ t) := last1_mem (by omega)
  rw [e1] at hm
  have := name_sg z hm
  simp only [List.mem_cons, List.not_mem_nil, or_false] at hd
  omega
theorem upper_sg {x : Str} (h : nameS x = true) : sg (Txt.upper x) = (sg x).map PyProof.Rows.up1 := by
  rw [PyProof.Rows.upper_ascii (fun c hc => by have := name_sg h hc; omega)]
  exact Array.toList_map
theorem upper_in {x : Str} (h : nameS x = true) {c : Nat} (hc : c ∈ sg (Txt.upper x)) : 65 ≤ c ∧ c ≤ 90 := by
  rw [upper_sg h] at hc
  obtain ⟨d, hd, rfl⟩ := List.mem_map.mp hc
  have := name_sg h hd
  unfold PyProof.Rows.up1
  rw [if_pos this]
  omega
theorem upper_len {x : Str} (h : nameS x = true) : (Txt.upper x).length = x.length := by rw [← sg_len, upper_sg h, List.length_map, sg_len]
theorem upper_no {x : Str} (h : nameS x = true) : nameS (Txt.upper x) = false := by
  have hp := nameS_pos h
  have hm : last1 (Txt.upper x) ∈ sg (Txt.upper x) := last1_mem (by rw [upper_len h]; omega)
  have := upper_in h hm
  exact noname hm (by omega)
theorem upper_none {x : Str} (h : nameS x = true) : partsS (Txt.upper x) = none := by
  have hp := nameS_pos h
  have hm : last1 (Txt.upper x) ∈ sg (Txt.upper x) := last1_mem (by rw [upper_len h]; omega)
  have := upper_in h hm
  refine parts_none' (upper_no h) fun z => ?_
  simp only [List.mem_cons, List.not_mem_nil, or_false] at z
  omega
theorem mul7_sg {x : Str} (h : 1 ≤ x.length) : sg (Txt.mul x 7) = sg x ++ sg x ++ sg x ++ sg x ++ sg x ++ sg x ++ sg x := by
  unfold Txt.mul
  rw [if_neg (by decide), if_neg (by rw [Bool.or_eq_true, beq_iff_eq, beq_iff_eq]; omega)]
  simp [sg, List.replicate]
theorem mul7_len {x : Str} (h : 1 ≤ x.length) : (Txt.mul x 7).length = 7 * x.length := by
  rw [← sg_len, mul7_sg h]
  simp only [List.length_append, sg_len]
  omega
theorem mul7_no {x : Str} (h : nameS x = true) : nameS (Txt.mul x 7) = false := by
  have hp := nameS_pos h
  exact noname_len (.inr (by rw [mul7_len hp]; omega))
theorem mul7_none {x : Str} (h : nameS x = true) : partsS (Txt.mul x 7) = none := by
  have hp := nameS_pos h
  have hm : last1 (Txt.mul x 7) ∈ sg (Txt.mul x 7) := last1_mem (by rw [mul7_len hp]; omega)
  rw [mul7_sg hp] at hm
  simp only [List.mem_append, or_self] at hm
  have := name_sg h hm
  refine parts_none' (mul7_no h) fun z => ?_
  simp only [List.mem_cons, List.not_mem_nil, or_false] at z
  omega
theorem mul7_ok {x : Str} (h : x.length ≤ 1000) : MulOk x 7 := by
  refine ⟨by decide, fun _ _ => ?_, fun _ _ => ?_⟩
  · have : (x.length : Int) ≤ 1000 := by omega
    omega
  · exact PyProof.Rows.short24 (by show x.length * 7 ≤ _; omega)
/-- a name and a tail with a strange last sign -/
theorem tail_none (x : Str) {t : Str} (l : 1 ≤ t.length) (h : ¬ (97 ≤ last1 t ∧ last1 t ≤ 122)) (hd : last1 t ∉ [48, 49, 50, 51]) : partsS (x ++ t) = none := by
  have e1 := last1_app x t l
  have hm : last1 (x ++ t) ∈ sg (x ++ t) := last1_mem (by rw [str_app]; omega)
  refine parts_none' (noname hm (by rw [e1]; exact h)) (by rw [e1]; exact hd)
/-- a strange first sign ahead of a name -/
theorem head_none {x t : Str} (h : nameS x = true) {c : Nat} (hc : c ∈ sg t) (hn : ¬ (97 ≤ c ∧ c ≤ 122)) : partsS (t ++ x) = none := by
  have hp := nameS_pos h
  have e1 := last1_app t x hp
  have := name_sg h (last1_mem hp)
  refine parts_none' (noname (c := c) (by rw [sg_app]; exact List.mem_append_left _ hc) hn) fun z => ?_
  rw [e1] at z
  simp only [List.mem_cons, List.not_mem_nil, or_false] at z
  omega
end G

namespace G
open PySem PySem.Spec PyProof.Rows L2
theorem letters_name {cs : List Nat} (h : ∀ c ∈ cs, c ∈ ABC.cps.toList) (h1 : 1 ≤ cs.length) (h6 : cs.length ≤ 6) : nameS ⟨cs.toArray⟩ = true := by
  have e : (Str.mk cs.toArray).length = cs.length := by simp [Str.length]
  unfold nameS
  rw [e, decide_eq_true (by omega), decide_eq_true (by omega), Bool.true_and, Bool.true_and, List.all_eq_true]
  intro c hc
  exact decide_eq_true (h c (by simpa using hc))
/-- a name that is no word of answers and bytes -/
def Good (z : Str) : Prop := nameS z = true ∧ inV (.str z) RESV = false
theorem Good.mark {z : Str} (h : Good z) : markV (.str z) = true := by
  unfold markV
  rw [show nameV (.str z) = true from h.1, h.2] <;> rfl
theorem Good.len {z : Str} (h : Good z) : z.length ≤ 6 := nameS_len h.1
theorem Good.pos {z : Str} (h : Good z) : 1 ≤ z.length := nameS_pos h.1
theorem res_of {z : Str} (h : inV (.str z) RESV = true) : z ∈ (["old", "zero", "end", "fails", "more", "done", "none"] : List Str) := by
  unfold inV at h
  obtain ⟨x, hx, e⟩ := List.any_eq_true.mp h
  unfold RESV at hx
  simp only [List.mem_cons, List.not_mem_nil, or_false] at hx ⊢
  rcases hx with rfl | rfl | rfl | rfl | rfl | rfl | rfl <;> simp [eqV] at e <;> simp [e]
theorem q_good {z : Str} (h : inV (.str z) RESV = true) : Good ("q" ++ cutS z (some 1) none) := by
  have hv := res_of h
  simp only [List.mem_cons, List.not_mem_nil, or_false] at hv
  rcases hv with rfl | rfl | rfl | rfl | rfl | rfl | rfl <;> exact ⟨by decide +kernel, by decide +kernel⟩
def sp_word (w0 : Nat) : Sp := fun vs H Q _ => vs.length = 1 ∧ ∃ (p : Addr) (N : Nat), vs = [.ref p] ∧ Bx H p N ∧ N ≤ 9000 ∧ ∀ (z : Str) (H' : Hp), Good z → Bx H' p (N + w0) → But p H H' → Q (.str z) H'
end G
namespace G
open PySem PySem.Spec PyProof.Rows L2
def LetC (c : Nat) : Prop := c = 112 ∨ c = 109 ∨ c = 110
/-- nothing that was known -/
def New (H : Hp) (v : V) : Prop := ∀ a, v = .ref a → H a = none
theorem New.of {H : Hp} {v : V} (h : ∀ a, v ≠ .ref a) : New H v := fun a e => absurd e (h a)
def sp_item (K : PySem.W.Frag) : Sp := fun vs H Q _ => vs.length = 2 ∧ ∃ (p : Addr) (c N : Nat), vs = [.ref p, .str ⟨#[c]⟩] ∧ LetC c ∧ Bx H p N ∧ N ≤ 5000 ∧
  ∀ (L : Addr) (v : V) (t : Th) (H' : Hp), H L = none → But p H H' → Bx H' p (N + 40) → H' L = some (.lst [v, .bl (fitsT c (v, t))]) → ThAt K (wo p H') v t → New H v → Q (.ref L) H'
/-- a list of values that all fit, or of such that do not -/
def Many (K : PySem.W.Frag) (H : Hp) (c : Nat) (b : Bool) (vs : List V) : Prop := ∀ v ∈ vs, ∃ t, ThAt K H v t ∧ fitsT c (v, t) = b
theorem Many.same {K : PySem.W.Frag} {H H' : Hp} {c : Nat} {b : Bool} {vs : List V} (s : Same H H') (h : Many K H c b vs) : Many K H' c b vs := fun v hv => by
  obtain ⟨t, a, e⟩ := h v hv
  exact ⟨t, a.same s, e⟩
theorem Many.nil {K : PySem.W.Frag} {H : Hp} {c : Nat} {b : Bool} : Many K H c b [] := fun v hv => nomatch hv
theorem Many.cons {K : PySem.W.Frag} {H : Hp} {c : Nat} {b : Bool} {v : V} {vs : List V} (t : Th) (h : ThAt K H v t) (e : fitsT c (v, t) = b) (r : Many K H c b vs) : Many K H c b (v :: vs) := fun u hu => by
  rcases List.mem_cons.mp hu with rfl | hu
  · exact ⟨t, h, e⟩
  · exact r u hu
theorem Many.app {K : PySem.W.Frag} {H : Hp} {c : Nat} {b : Bool} {vs us : List V} (h : Many K H c b vs) (r : Many K H c b us) : Many K H c b (vs ++ us) := fun u hu => by
  rcases List.mem_append.mp hu with hu | hu
  · exact h u hu
  · exact r u hu
theorem Many.at {K : PySem.W.Frag} {H : Hp} {c : Nat} {b : Bool} {vs : List V} (h : Many K H c b vs) {i : Int} (h0 : 0 ≤ i) (h1 : i < vs.length) : ∃ v t, atI vs i = some v ∧ ThAt K H v t ∧ fitsT c (v, t) = b ∧ v ∈ vs := by
  obtain ⟨v, hv, e⟩ := atI_mem h0 h1
  obtain ⟨t, ht, f⟩ := h v hv
  exact ⟨v, t, e, ht, f, hv⟩
theorem fits_p (v : V) (t : Th) : fitsT 112 (v, t) = (pairT t).isSome := rfl
theorem th_str {K : PySem.W.Frag} {H : Hp} {x : Str} (h : x.length ≤ 1000) : ThAt K H (.str x) (.str x) := ⟨rfl, Nat.le_trans h (by decide)⟩
theorem th_oth {K : PySem.W.Frag} {H : Hp} {v : V} {b : String} (ty : TyX K H v (.type b)) (a : Ask K H v) (k : PySem.W.kitOne K (.type b) (.ref (He.ga K "Place")) = some false) (hi : ∀ i, v ≠ .int i) (hs : ∀ x, v ≠ .str x) : ThAt K H v .oth := ⟨a, ⟨_, ty, k⟩, hi, hs⟩
end G
namespace G
open PySem PySem.Spec PyProof.Rows L2
theorem app_assoc (a b c : Str) : a ++ b ++ c = a ++ (b ++ c) := sg_ext (by rw [sg_app, sg_app, sg_app, sg_app, List.append_assoc])
theorem tail_some {z s : Str} {d : Nat} (h : nameS z = true) (hs : s = "+" ∨ s = "-") (hd : d ∈ (Str.ofString "123").cps.toList) : (partsS (z ++ s ++ ⟨#[d]⟩)).isSome = true := by
  rw [show (Str.ofString "123").cps.toList = [49, 50, 51] by decide +kernel] at hd
  have hl : (s ++ (⟨#[d]⟩ : Str)).length = 2 := by
    rw [str_app]
    rcases hs with rfl | rfl <;> rfl
  have e1 : last1 (s ++ (⟨#[d]⟩ : Str)) = d := last1_app s ⟨#[d]⟩ (Nat.le_refl 1)
  have e2 : last2 (s ++ (⟨#[d]⟩ : Str)) ∈ [43, 45] := by
    simp only [List.mem_cons, List.not_mem_nil, or_false] at hd
    rcases hs with rfl | rfl <;> rcases hd with rfl | rfl | rfl <;> decide +kernel
  rw [app_assoc, parts_tail h hl e2 (by rw [e1]; exact hd)] <;> rfl
theorem many_some {K : PySem.W.Frag} {H : Hp} {z : Str} {d1 d2 d3 : Nat} {r : Int} {x : Addr} {b : Str} {i : Int} (h : nameS z = true) (h1 : d1 ∈ (Str.ofString "123").cps.toList) (h2 : d2 ∈ (Str.ofString "123").cps.toList) (h3 : d3 ∈ (Str.ofString "0123").cps.toList)
    (r0 : 0 ≤ r) (r1 : r < 4) (hx : PlAt K H (.ref x) b i) : Many K H 112 true [.str z, .str (z ++ "+" ++ ⟨#[d1]⟩), .str (z ++ "-" ++ ⟨#[d2]⟩), .int r, .ref x, .str ⟨#[d3]⟩] := by
  have hl := nameS_len h
  have l1 : ∀ d, (Str.mk #[d]).length = 1 := fun _ => rfl
  have lp : (Str.ofString "+").length = 1 := rfl
  have lm : (Str.ofString "-").length = 1 := rfl
  refine .cons (.str z) (th_str (by omega)) (by rw [fits_p]; show (partsS z).isSome = true; rw [parts_name h]; rfl) (.cons (.str _) (th_str (by rw [str_app, str_app, l1]; omega)) (by rw [fits_p]; exact tail_some h (.inl rfl) h1) (.cons (.str _) (th_str (by rw [str_app, str_app, l1]; omega)) (by rw [fits_p]; exact tail_some h (.inr rfl) h2)
    (.cons (.int r) rfl ?_ (.cons (.pl b i) hx rfl (.cons (.str _) (th_str (by rw [l1]; decide)) ?_ .nil)))))
  · rw [fits_p]
    show (if 0 ≤ r ∧ r ≤ 3 then some (("" : Str), r) else none).isSome = true
    rw [if_pos ⟨r0, by omega⟩] <;> rfl
  · rw [fits_p]
    show (partsS (one d3)).isSome = true
    rw [parts_dig (by rw [show (Str.ofString "0123").cps.toList = [48, 49, 50, 51] by decide +kernel] at h3; exact h3)] <;> rfl
theorem none_some {x : Str} (h : partsS x = none) : fitsT 112 (.str x, .str x) = false := by
  rw [fits_p]
  show (partsS x).isSome = false
  rw [h] <;> rfl
theorem many_odd {K : PySem.W.Frag} {H : Hp} {z : Str} {a1 a2 : Addr} (h : nameS z = true) (kt : ∀ b ∈ (["NoneType", "bool", "int", "str", "list", "tuple", "dict"] : List String), PySem.W.kitOne K (.type b) (.ref (He.ga K "Place")) = some false) (h1 : H a1 = some (.lst [.int 0])) (h2 : H a2 = some (.tup [.str z])) :
    Many K H 112 false ([.str (z ++ "+4"), .str (z ++ "+0"), .str (z ++ "-"), .str "", .int 4, .int (0 - 1), .bl true, .non, .ref a1, .str (" " ++ z), .str (z ++ "+1 ")] ++ [.str ("1+" ++ z), .str (Txt.upper z), .str (z ++ "+01"), .str (z ++ "\n"), .ref a2, .str "4", .str (Txt.mul z 7)]) := by
  have hl := nameS_len h
  have hp := nameS_pos h
  have ts : ∀ {x : Str}, x.length ≤ 1000 → partsS x = none → ∃ t, ThAt K H (.str x) t ∧ fitsT 112 (.str x, t) = false := fun l e => ⟨.str _, th_str l, none_some e⟩
  have lz : ∀ y, y ∈ ["+4", "+0", "-", " ", "+1 ", "1+", "+01", "\n"] → (Str.ofString y).length ≤ 3 := by decide +kernel
  intro v hv
  simp only [List.cons_append, List.nil_append, List.mem_cons, List.not_mem_nil, or_false] at hv
  rcases hv with rfl | rfl | rfl | rfl | rfl | rfl | rfl | rfl | rfl | rfl | rfl | rfl | rfl | rfl | rfl | rfl | rfl | rfl
  · exact ts (by rw [str_app]; have := lz "+4" (by decide); omega) (tail_none z (by decide +kernel) (by decide +kernel) (by decide +kernel))
  · refine ts (by rw [str_app]; have := lz "+0" (by decide); omega) ?_
    have e1 := last1_app z "+0" (by decide +kernel)
    have hm : last1 (z ++ "+0") ∈ sg (z ++ "+0") := last1_mem (by rw [str_app]; omega)
    refine parts_none (noname hm (by rw [e1]; decide +kernel)) (fun e => ?_) (.inl (by rw [e1]; decide +kernel))
    rw [str_app, show (Str.ofString "+0").length = 2 from rfl] at e
    omega
  · exact ts (by rw [str_app]; have := lz "-" (by decide); omega) (tail_none z (by decide +kernel) (by decide +kernel) (by decide +kernel))
  · exact ts (by decide) (by decide +kernel)
  · exact ⟨.int 4, rfl, by decide +kernel⟩
  · exact ⟨.int (0 - 1), rfl, by decide +kernel⟩
  · exact ⟨.oth, th_oth (.base (.bl true)) (Ask.bl true) (kt _ (by decide)) (fun _ e => nomatch e) (fun _ e => nomatch e), rfl⟩
  · exact ⟨.oth, th_oth (.base .non) Ask.non (kt _ (by decide)) (fun _ e => nomatch e) (fun _ e => nomatch e), rfl⟩
  · exact ⟨.oth, th_oth (.base (.lst h1)) (Ask.lst h1) (kt _ (by decide)) (fun _ e => nomatch e) (fun _ e => nomatch e), rfl⟩
  · exact ts (by rw [str_app]; have := lz " " (by decide); omega) (head_none h (c := 32) (by decide +kernel) (by decide))
  · exact ts (by rw [str_app]; have := lz "+1 " (by decide); omega) (tail_none z (by decide +kernel) (by decide +kernel) (by decide +kernel))
  · exact ts (by rw [str_app]; have := lz "1+" (by decide); omega) (head_none h (c := 49) (by decide +kernel) (by decide))
  · exact ts (by rw [upper_len h]; omega) (upper_none h)
  · refine ts (by rw [str_app]; have := lz "+01" (by decide); omega) ?_
    have e1 := last1_app z "+01" (by decide +kernel)
    have e2 := last2_app z "+01" (by decide +kernel)
    have hm : last1 (z ++ "+01") ∈ sg (z ++ "+01") := last1_mem (by rw [str_app]; omega)
    refine parts_none (noname hm (by rw [e1]; decide +kernel)) (fun e => ?_) (.inr (by rw [e2]; decide +kernel))
    rw [str_app, show (Str.ofString "+01").length = 3 from rfl] at e
    omega
  · exact ts (by rw [str_app]; have := lz "\n" (by decide); omega) (tail_none z (by decide +kernel) (by decide +kernel) (by decide +kernel))
  · exact ⟨.oth, th_oth (.base (.tup h2)) (Ask.tup h2) (kt _ (by decide)) (fun _ e => nomatch e) (fun _ e => nomatch e), rfl⟩
  · exact ts (by decide) (by decide +kernel)
  · exact ts (by rw [mul7_len hp]; omega) (mul7_none h)
end G
namespace G
open PySem PySem.Spec PyProof.Rows L2
theorem fits_no {c : Nat} (h : ¬ c = 112) {v : V} (n : nameV v = false) (t : Th) : fitsT c (v, t) = false := by
  unfold fitsT
  rw [if_neg h]
  split
  · show (nameV v && !inV v RESV) = false
    rw [n] <;> rfl
  · exact n
theorem many_odd2 {K : PySem.W.Frag} {H : Hp} {c : Nat} {z : Str} {a1 x : Addr} {b : Str} {i : Int} (hc : ¬ c = 112) (h : nameS z = true) (kt : ∀ b ∈ (["NoneType", "bool", "int", "str", "list", "tuple", "dict"] : List String), PySem.W.kitOne K (.type b) (.ref (He.ga K "Place")) = some false) (h1 : H a1 = some (.lst [.str z])) (hx : PlAt K H (.ref x) b i) :
    Many K H c false [.str "", .str (z ++ "1"), .str (Txt.upper z), .str (z ++ "\n"), .non, .int 5, .ref a1, .str (Txt.mul z 7), .ref x, .str (" " ++ z)] := by
  have hl := nameS_len h
  have hp := nameS_pos h
  have ts : ∀ {x : Str}, x.length ≤ 1000 → nameS x = false → ∃ t, ThAt K H (.str x) t ∧ fitsT c (.str x, t) = false := fun {x} l e => ⟨.str x, th_str l, fits_no (v := .str x) hc e _⟩
  have lz : ∀ y, y ∈ [" ", "1", "\n"] → (Str.ofString y).length ≤ 3 := by decide +kernel
  intro v hv
  simp only [List.mem_cons, List.not_mem_nil, or_false] at hv
  rcases hv with rfl | rfl | rfl | rfl | rfl | rfl | rfl | rfl | rfl | rfl
  · exact ts (by decide) (by decide +kernel)
  · exact ts (by rw [str_app]; have := lz "1" (by decide); omega) (noname (c := 49) (by rw [sg_app]; exact List.mem_append_right _ (by decide +kernel)) (by decide))
  · exact ts (by rw [upper_len h]; omega) (upper_no h)
  · exact ts (by rw [str_app]; have := lz "\n" (by decide); omega) (noname (c := 10) (by rw [sg_app]; exact List.mem_append_right _ (by decide +kernel)) (by decide))
  · exact ⟨.oth, th_oth (.base .non) Ask.non (kt _ (by decide)) (fun _ e => nomatch e) (fun _ e => nomatch e), fits_no hc rfl _⟩
  · exact ⟨.int 5, rfl, fits_no hc rfl _⟩
  · exact ⟨.oth, th_oth (.base (.lst h1)) (Ask.lst h1) (kt _ (by decide)) (fun _ e => nomatch e) (fun _ e => nomatch e), fits_no hc rfl _⟩
  · exact ts (by rw [mul7_len hp]; omega) (mul7_no h)
  · exact ⟨.pl b i, hx, fits_no hc rfl _⟩
  · exact ts (by rw [str_app]; have := lz " " (by decide); omega) (noname (c := 32) (by rw [sg_app]; exact List.mem_append_left _ (by decide +kernel)) (by decide))
theorem many_res {K : PySem.W.Frag} {H : Hp} : Many K H 109 false [.str "old", .str "zero", .str "end", .str "fails", .str "more", .str "done", .str "none"] := by
  intro v hv
  simp only [List.mem_cons, List.not_mem_nil, or_false] at hv
  rcases hv with rfl | rfl | rfl | rfl | rfl | rfl | rfl <;> exact ⟨.str _, th_str (by decide), by decide +kernel⟩
theorem fits_good {c : Nat} (hc : LetC c) (h : ¬ c = 112) {z : Str} (g : Good z) (t : Th) : fitsT c (.str z, t) = true := by
  unfold fitsT
  rw [if_neg h]
  split
  · exact g.mark
  · exact g.1
end G
namespace G
open PySem PySem.Spec PyProof.Rows L2
def sp_right (K : PySem.W.Frag) : Sp := fun vs H Q _ => vs.length = 2 ∧ ∃ (v : V) (b : Bool) (o : Option (List VT)), vs = [v, .bl b] ∧ StAt K H v o ∧ stepO o = b ∧ ∀ H', Same H H' → Q (.bl true) H'
theorem bools2 {K : PySem.W.Frag} {H : Hp} {a : Addr} {x y : Bool} (h : SqL K H a [.bl x, .bl y]) : Dp K H (.ref a) (.list [.bool x, .bool y]) := .lst h (.cons (.bl x) (.cons (.bl y) .nil))
theorem eqv2 (x : Bool) : PyData.eqv (.list [.bool x, .bool x]) (.list [.bool x, .bool x]) = true := by cases x <;> decide +kernel
theorem shaped2 (x : Bool) : SeqAt.shaped (.list [.bool x, .bool x]) = true := by cases x <;> rfl
/-- an item that was drawn: its letter, where it lies, itself -/
abbrev Tr := Nat × Addr × VT
def TrAt (K : PySem.W.Frag) (p : Addr) (H : Hp) (t : Tr) : Prop := H t.2.1 = some (.lst [t.2.2.1, .bl (fitsT t.1 t.2.2)]) ∧ t.2.1 ≠ p ∧ ThAt K (wo p H) t.2.2.1 t.2.2.2
theorem TrAt.but {K : PySem.W.Frag} {p : Addr} {H H' : Hp} {t : Tr} (b : But p H H') (h : TrAt K p H t) : TrAt K p H' t := ⟨b.at h.1 h.2.1, h.2.1, h.2.2.same b.wo⟩
/-- the forms' list -/
def FrAt (H : Hp) (L : Addr) : Prop := ∃ as : List Addr, H L = some (.lst (as.map V.ref)) ∧ as.length = 9 ∧ ∀ (i : Nat) (a : Addr) (x : Str × Str), as[i]? = some a → FTAB[i]? = some x → H a = some (.tup [.str x.1, .str x.2])
theorem FrAt.same {H H' : Hp} {L : Addr} (s : Same H H') (h : FrAt H L) : FrAt H' L := by
  obtain ⟨as, h1, h2, h3⟩ := h
  exact ⟨as, s _ _ h1, h2, fun i a x e1 e2 => s _ _ (h3 i a x e1 e2)⟩
/-- a thing that is no step -/
def NoSt (K : PySem.W.Frag) (H : Hp) (v : V) : Prop := ∃ o, StAt K H v o ∧ stepO o = false
theorem NoSt.same {K : PySem.W.Frag} {H H' : Hp} {v : V} (s : Same H H') (h : NoSt K H v) : NoSt K H' v := by
  obtain ⟨o, a, b⟩ := h
  exact ⟨o, a.same s, b⟩
theorem form_of {x : Str × Str} (h : x ∈ FTAB) : formS x.1 = some x.2 := (by decide +kernel : ∀ x ∈ FTAB, formS x.1 = some x.2) x h
theorem form_up {x : Str × Str} (h : x ∈ FTAB) : formS (Txt.upper x.1) = none := (by decide +kernel : ∀ x ∈ FTAB, formS (Txt.upper x.1) = none) x h
theorem form_sp {x : Str × Str} (h : x ∈ FTAB) : formS (x.1 ++ " ") = none := (by decide +kernel : ∀ x ∈ FTAB, formS (x.1 ++ " ") = none) x h
theorem form_wl {x : Str × Str} (h : x ∈ FTAB) : x.1.length ≤ 6 := (by decide +kernel : ∀ x ∈ FTAB, x.1.length ≤ 6) x h
theorem form_let {x : Str × Str} (h : x ∈ FTAB) {c : Nat} (hc : c ∈ x.2.cps.toList) : LetC c := by
  have : ∀ x ∈ FTAB, ∀ c ∈ x.2.cps.toList, c = 112 ∨ c = 109 ∨ c = 110 := by decide +kernel
  exact this x h c hc
theorem no_head {t : Th} {v : V} {r : List VT} (h : ∀ x, v ≠ .str x) : stepP ((v, t) :: r) = false := by
  cases v with
  | str x => exact absurd rfl (h x)
  | _ => rfl
theorem no_form {t : Th} {x : Str} {r : List VT} (h : formS x = none) : stepP ((.str x, t) :: r) = false := by simp only [stepP, h]
theorem no_len {t : Th} {x f : Str} {r : List VT} (h : formS x = some f) (hl : r.length ≠ f.length) : stepP ((.str x, t) :: r) = false := by
  simp only [stepP, h]
  rw [decide_eq_false hl, Bool.false_and]
theorem step_of {x f : Str} {ts : List Tr} {t : Th} (h : formS x = some f) (hc : ts.map (·.1) = f.cps.toList) : stepP ((.str x, t) :: ts.map (·.2.2)) = ((ts.filter fun t => !fitsT t.1 t.2.2).map fun t => V.ref t.2.1).isEmpty := by
  have hl : (ts.map (·.2.2)).length = f.length := by
    have := congrArg List.length hc
    rw [List.length_map, Array.length_toList] at this
    rw [List.length_map]
    exact this
  simp only [stepP, h]
  rw [decide_eq_true hl, Bool.true_and, ← hc, List.isEmpty_map]
  have e : (ts.map (·.1)).zip (ts.map (·.2.2)) = ts.map fun t => (t.1, t.2.2) := by
    rw [List.zip_map']
  rw [e, List.all_map, Bool.eq_iff_iff, List.isEmpty_iff, List.filter_eq_nil_iff, List.all_eq_true]
  simp only [Function.comp, Bool.not_eq_true, Bool.not_eq_false']
theorem ty_at {K : PySem.W.Frag} {H H' : Hp} {v : V} {t : Value} (s : ∀ a o, v = .ref a → H a = some o → H' a = some o) (h : TyX K H v t) : TyX K H' v t := by
  cases h with
  | base b =>
    refine .base ?_
    cases b with
    | non => exact .non
    | bl x => exact .bl x
    | int i => exact .int i
    | str x => exact .str x
    | flt x => exact .flt x
    | lst e => exact .lst (s _ _ rfl e)
    | frz e => exact .frz (s _ _ rfl e)
    | tup e => exact .tup (s _ _ rfl e)
    | dK e => exact .dK (s _ _ rfl e)
    | dT e => exact .dT (s _ _ rfl e)
    | ins e a b c d f => exact .ins (s _ _ rfl e) a b c d f
  | byt b => exact .byt b
  | set e => exact .set (s _ _ rfl e)
  | kList e c => exact .kList e c
  | kTuple e c => exact .kTuple e c
  | kDict e c => exact .kDict e c
  | fTuple e => exact .fTuple (s _ _ rfl e)
  | fDict e => exact .fDict (s _ _ rfl e)
theorem ThAt.keep {K : PySem.W.Frag} {H H' : Hp} {v : V} {t : Th} (s : ∀ a o, v = .ref a → H a = some o → H' a = some o) (h : ThAt K H v t) : ThAt K H' v t := by
  cases t with
  | pl b i =>
    obtain ⟨a, dx, e, h⟩ := h
    exact ⟨a, dx, e, s _ _ e h⟩
  | str x => exact h
  | int i => exact h
  | oth =>
    obtain ⟨⟨t1, y1, k⟩, ⟨t2, y2, k2⟩, r⟩ := h
    exact ⟨⟨t1, ty_at s y1, k⟩, ⟨t2, ty_at s y2, k2⟩, r⟩
/-- .. and it has nothing to do with D -/
def TrD (K : PySem.W.Frag) (p D : Addr) (H : Hp) (t : Tr) : Prop := TrAt K p H t ∧ t.2.1 ≠ D ∧ ∀ a, t.2.2.1 = .ref a → a ≠ D
theorem TrD.but {K : PySem.W.Frag} {p D : Addr} {H H' : Hp} {t : Tr} (b : But p H H') (h : TrD K p D H t) : TrD K p D H' t := ⟨h.1.but b, h.2⟩
theorem TrD.upd {K : PySem.W.Frag} {p D : Addr} {H : Hp} {o : HO} {t : Tr} (h : TrD K p D H t) : TrD K p D (upd H D o) t := by
  obtain ⟨⟨h1, h2, h3⟩, h4, h5⟩ := h
  refine ⟨⟨by rw [upd_ne h4]; exact h1, h2, h3.keep fun a u e g => ?_⟩, h4, h5⟩
  by_cases z : a = p
  · rw [wo, if_pos z] at g; exact nomatch g
  · rw [wo_ne z] at g ⊢
    rw [upd_ne (h5 a e)]
    exact g
end G
namespace G
open PySem PySem.Spec PyProof.Rows L2
theorem cut_map (l : List VT) (lo hi : Option Int) : cutV (l.map Prod.fst) lo hi = ((l.drop (HT.sIx l.length 0 lo)).take (HT.sIx l.length l.length hi - HT.sIx l.length 0 lo)).map Prod.fst := by
  unfold cutV
  rw [List.length_map, List.map_take, List.map_drop]
theorem cut_last (l : List VT) : cutV (l.map Prod.fst) none (some (-1)) = l.dropLast.map Prod.fst := by
  rw [cut_map, HT.sIx_none, List.drop_zero, Nat.sub_zero, List.dropLast_eq_take]
  congr 2
  unfold HT.sIx
  simp only
  rw [if_pos (by decide)]
  omega
theorem cut_to (l : List VT) {k : Nat} (h : k ≤ l.length) : cutV (l.map Prod.fst) none (some (k : Int)) = (l.take k).map Prod.fst := by
  rw [cut_map, HT.sIx_none, List.drop_zero, Nat.sub_zero, HT.sIx_nat, Nat.min_eq_left h]
theorem cut_from (l : List VT) {k : Nat} (h : k ≤ l.length) : cutV (l.map Prod.fst) (some (k : Int)) none = (l.drop k).map Prod.fst := by
  rw [cut_map, HT.sIx_none, HT.sIx_nat, Nat.min_eq_left h, List.take_of_length_le (by rw [List.length_drop]; omega)]
theorem nost {K : PySem.W.Frag} {H : Hp} {v : V} {qs : List VT} (h : TpA H v (qs.map Prod.fst)) (a : AllTh K H qs) (l : qs.length ≤ 100) (e : stepP qs = false) : NoSt K H v := ⟨some qs, ⟨h, a, l⟩, e⟩
theorem nost_no {K : PySem.W.Frag} {H : Hp} {v : V} (h : NoTup K H v) : NoSt K H v := ⟨none, h, rfl⟩
end G

namespace G
open PySem PySem.Spec PyProof.Rows L2
theorem sc__law_word : FnScope ["_law_box_here", "_law_letters", "_law_word_here", "_law_k"] ["_law_box_here"] (defScope s__law_word) := ⟨rfl, rfl, rfl, by decide +kernel, rfl, by decide +kernel, by decide +kernel⟩
section
variable {P : Program} {w : World} {K : PySem.W.Frag} {mg : Str → Option Value} {base : Heap}
theorem fn__law_word (T : Tx w K mg)  {fd : FuncData} (F : FunD K d__law_word.name d__law_word.qual d__law_word.params d__law_word.body d__law_word.scope (d__law_word.dvs K) (d__law_word.kws K) (He.fAd K d__law_word.at_) fd) : FnOk P w K mg base CX0 2 (He.fAd K d__law_word.at_) fd ["_law_box_here"] (sp_word 10) := by
  refine F.ok sc__law_word (fun vs H Q E h => ?_) (fun cdv A outer s H vs Q E hr h => ?_)
  · exact lenOf h
  · have hu := hu_of hr
    have hu64 := hr.units
    have sz : 100000 ≤ sizeLine := by decide
    have C__law_take := cal__law_take (P := P) (w := w) (base := base) T
    refine ⟨_, PSs.nox (pss_cons (ps_set (i := 1) sc__law_word.nd rfl (Or.inr rfl) pe_str)
      (pss_cons (ps_set (i := 2) sc__law_word.nd rfl (Or.inl rfl) (pe_join pe_str (pe_lc (own := [("_law_k", 3)]) (g := gName 3) (tt := tYes) rfl sc__law_word.nd (pi_range1 rfl T.f_range (pa_cons (pe_op op_add pe_int (C8.pe_c C__law_take hr (by decide) rfl (pa_cons (pv 0) (pa_cons pe_int pa_nil)))) pa_nil)) (blkOk_by (N := ["_law_box_here", "_law_letters", "_law_word_here", "_law_k"]) (sc := defScope s__law_word) (by decide +kernel)) (fun _ _ _ _ _ => (pg_name (i := 3) sc__law_word.nd rfl (Or.inl rfl))) (fun _ _ _ _ _ => pts_nil) (fun _ _ _ _ _ => (pe_ix ix_str (pv 1) (C8.pe_c C__law_take hr (by decide) rfl (pa_cons (pv 0) (pa_cons pe_int pa_nil))) (fun _ _ => rfl))))))
      (pss_one (ps_ret (pe_ifExp (pt_cmpR op_in_seq (pv 2) (pe_tup (pa_cons pe_str (pa_cons pe_str (pa_cons pe_str (pa_cons pe_str (pa_cons pe_str (pa_cons pe_str (pa_cons pe_str pa_nil)))))))) rfl) (pe_op op_add_str pe_str (pe_slice sl_str (pv 2) (po_some pe_int) po_none)) (pv 2)))))), ?_⟩
    obtain ⟨_, p, N, rfl, hB, hN, q⟩ := h
    refine ⟨⟨_, rfl⟩, _, rfl, rfl, p, _, N, rfl, hB, by omega, by decide, by decide, fun r H1 r0 r1 B1 S1 => ?_⟩
    refine ⟨_, _, rfl, rfl, _, rfl, by omega, by omega, fun D hD => ?_⟩
    have npD : p ≠ D := B1.ne hD
    have D0 : H D = none := S1.free hD npD.symm
    refine lc_range (fun i H' => But p H H' ∧ Bx H' p (N + 1 + i) ∧ ∃ cs : List Nat, cs.length = i ∧ (∀ c ∈ cs, c ∈ ABC.cps.toList) ∧ H' D = some (.lst ((cs.map one).map V.str))) ⟨S1.new hD, B1.same (Same.new hD), [], rfl, (fun c hc => nomatch hc), upd_same⟩ ?_ ?_
    · rintro i H2 hi ⟨S2, B2, cs, hcs, hin, hL⟩
      refine ⟨rfl, ?_⟩
      unfold tYes
      refine iteT ⟨_, rfl, _, rfl, rfl, p, _, N + 1 + i, rfl, B2, by omega, by decide, by decide, fun u H3 u0 u1 B3 S3 => ?_⟩
      obtain ⟨c, hcm, hc⟩ := atI_mem (xs := (Str.ofString "abcdefghijklmnopqrstuvwxyz").cps.toList) u0 (by exact u1)
      refine ⟨_, _, c, rfl, rfl, by decide, hc, _, S3 _ _ hL npD.symm, ?_, ?_, ?_, cs ++ [c], by rw [List.length_append, hcs]; rfl, ?_, ?_⟩
      · rw [List.length_map, List.length_map, hcs]
        exact Nat.lt_of_lt_of_le hi (Nat.le_trans (by omega : (1 + r).toNat ≤ 9) (by decide))
      · exact (S2.tr S3).chg' D0
      · obtain ⟨x1, x2, x3, hp, h4⟩ := B3
        exact ⟨x1, x2, x3, by rw [upd_ne npD]; exact hp, h4⟩
      · intro y hy
        rcases List.mem_append.mp hy with hy | hy
        · exact hin y hy
        · rw [List.mem_singleton.mp hy]
          exact hcm
      · rw [upd_same, List.map_append, List.map_append] <;> rfl
    · rintro H2 ⟨S2, B2, cs, hcs, hin, hL⟩
      have hcl : cs.length ≤ 6 := by omega
      have gd := letters_name hin (by omega) hcl
      refine ⟨_, _, cs.map one, rfl, rfl, .inl (lst_sq hL), ?_, ?_⟩
      · rw [ones_len, List.length_map, show (Str.ofString "").length = 0 from rfl] <;> omega
      rw [show Txt.join (Str.ofString "") (cs.map one) = ⟨cs.toArray⟩ from join_ones cs]
      have hz : (Str.mk cs.toArray).length = cs.length := by simp [Str.length]
      generalize hzz : (Str.mk cs.toArray) = z at *
      refine ⟨_, rfl, (by show 7 ≤ sizeLine; decide), fun L nL => ⟨L, _, rfl, .inr (tup_sq upd_same), rfl, rfl, _, rfl, ?_⟩⟩
      have S4 := S2.new (o := .tup RESV) nL
      have B4 := B2.same (Same.new (o := .tup RESV) nL)
      show if inV (.str z) RESV = true then _ else _
      cases hin2 : inV (.str z) RESV with
      | false => exact iteF ⟨_, rfl, q z _ ⟨gd, hin2⟩ (B4.mono (by omega)) S4⟩
      | true =>
        have l1 := cutS_length z (some 1) none
        have l2 : (Str.ofString "q").length = 1 := rfl
        refine iteT ⟨_, rfl, _, rfl, z, rfl, by omega, _, _, rfl, rfl, ?_, ?_⟩
        · rw [l2]
          omega
        · exact q _ _ (q_good hin2) (B4.mono (by omega)) S4
theorem cal__law_word (T : Tx w K mg)  : C8.Cal P w K mg base 2 "_law_word" (sp_word 10) [] := by
  obtain ⟨fd, F⟩ := T.d__law_word
  exact ⟨_, fd, ["_law_box_here"], [], fn__law_word T  F, T.g__law_word, F.kp, FunD.bindsN (ps := ["_law_box_here"]) F (fun _ _ _ _ _ _ us hl => match us, hl with | [_], _ => rfl), .nil⟩

end
end G
namespace G
open PySem PySem.Spec PyProof.Rows L2
theorem sc__law_item : FnScope ["_law_box_here", "_law_letter", "_law_word_here", "_law_sure", "_law_some", "_law_odd"] ["_law_box_here", "_law_letter"] (defScope s__law_item) := ⟨rfl, rfl, rfl, by decide +kernel, rfl, by decide +kernel, by decide +kernel⟩
section
variable {P : Program} {w : World} {K : PySem.W.Frag} {mg : Str → Option Value} {base : Heap}
theorem fn__law_item (T : Tx w K mg) (pf : PF P)  {fd : FuncData} (F : FunD K d__law_item.name d__law_item.qual d__law_item.params d__law_item.body d__law_item.scope (d__law_item.dvs K) (d__law_item.kws K) (He.fAd K d__law_item.at_) fd) : FnOk P w K mg base CX0 5 (He.fAd K d__law_item.at_) fd ["_law_box_here", "_law_letter"] (sp_item K) := by
  refine F.ok sc__law_item (fun vs H Q E h => ?_) (fun cdv A outer s H vs Q E hr h => ?_)
  · exact lenOf h
  · have hu := hu_of hr
    have hu64 := hr.units
    have sz : 100000 ≤ sizeLine := by decide
    have C__law_take := cal__law_take (P := P) (w := w) (base := base) T
    have C__law_word := cal__law_word (P := P) (w := w) (base := base) T
    obtain ⟨fdP, FP⟩ := T.d_Place___init__
    have GP := fn_Place___init__ (P := P) (w := w) (base := base) T pf FP
    obtain ⟨dsP, hvP, hbP⟩ := kb_Place1 FP
    obtain ⟨gP2, kbP2⟩ := kb_Place2 FP
    obtain ⟨gP0, kbP0⟩ := kb_Place0 FP
    refine ⟨_, PSs.nox (pss_cons (ps_set (i := 2) sc__law_item.nd rfl (Or.inl rfl) (C8.pe_c C__law_word hr (by decide) rfl (pa_cons (pv 0) pa_nil)))
      (pss_cons (ps_set (i := 3) sc__law_item.nd rfl (Or.inl rfl) (pe_cmpR op_gt (C8.pe_c C__law_take hr (by decide) rfl (pa_cons (pv 0) (pa_cons pe_int pa_nil))) pe_int (nomark _)))
      (pss_cons (ps_if (pt_cmpR op_eq (pv 1) pe_str (nomark _)) (pss_cons (ps_set (i := 4) sc__law_item.nd rfl (Or.inl rfl) (pe_lstN (pa_cons (pv 2) (pa_cons (pe_op op_add_str (pe_op op_add_str (pv 2) pe_str) (pe_ix ix_str pe_str (C8.pe_c C__law_take hr (by decide) rfl (pa_cons (pv 0) (pa_cons pe_int pa_nil))) (fun _ _ => rfl))) (pa_cons (pe_op op_add_str (pe_op op_add_str (pv 2) pe_str) (pe_ix ix_str pe_str (C8.pe_c C__law_take hr (by decide) rfl (pa_cons (pv 0) (pa_cons pe_int pa_nil))) (fun _ _ => rfl))) pa_nil)))))
      (pss_cons (ps_set (i := 4) sc__law_item.nd rfl (Or.inl rfl) (pe_op op_catN (pv 4) (pe_lstN (pa_cons (C8.pe_c C__law_take hr (by decide) rfl (pa_cons (pv 0) (pa_cons pe_int pa_nil))) (pa_cons (pe_makeN T.mk_Place GP (hr.mono (by decide)) rfl T.g_Place kbP2 passL (pa_cons (pv 2) pa_nil) (pk_cons (pe_op op_sub (C8.pe_c C__law_take hr (by decide) rfl (pa_cons (pv 0) (pa_cons pe_int pa_nil))) pe_int) pk_nil)) (pa_cons (pe_ix ix_str pe_str (C8.pe_c C__law_take hr (by decide) rfl (pa_cons (pv 0) (pa_cons pe_int pa_nil))) (fun _ _ => rfl)) pa_nil))))))
      (pss_cons (ps_set (i := 5) sc__law_item.nd rfl (Or.inl rfl) (pe_lstN (pa_cons (pe_op op_add_str (pv 2) pe_str) (pa_cons (pe_op op_add_str (pv 2) pe_str) (pa_cons (pe_op op_add_str (pv 2) pe_str) (pa_cons pe_str (pa_cons pe_int (pa_cons (pe_op op_sub pe_int pe_int) (pa_cons pe_bl (pa_cons pe_non (pa_cons (pe_lstN (pa_cons pe_int pa_nil)) (pa_cons (pe_op op_add_str pe_str (pv 2)) (pa_cons (pe_op op_add_str (pv 2) pe_str) pa_nil)))))))))))))
      (pss_cons (ps_set (i := 5) sc__law_item.nd rfl (Or.inl rfl) (pe_op op_catN (pv 5) (pe_lstN (pa_cons (pe_op op_add_str pe_str (pv 2)) (pa_cons (pe_upper (pv 2)) (pa_cons (pe_op op_add_str (pv 2) pe_str) (pa_cons (pe_op op_add_str (pv 2) pe_str) (pa_cons (pe_tupN (pa_cons (pv 2) pa_nil)) (pa_cons pe_str (pa_cons (pe_op op_mulS (pv 2) pe_int) pa_nil))))))))))
      (pss_one (ps_ret (pe_ifExp (pt_val (pv 3)) (pe_lstN (pa_cons (pe_ix ix_list (pv 4) (C8.pe_c C__law_take hr (by decide) rfl (pa_cons (pv 0) (pa_cons pe_int pa_nil))) (fun _ _ => rfl)) (pa_cons pe_bl pa_nil))) (pe_lstN (pa_cons (pe_ix ix_list (pv 5) (C8.pe_c C__law_take hr (by decide) rfl (pa_cons (pv 0) (pa_cons pe_int pa_nil))) (fun _ _ => rfl)) (pa_cons pe_bl pa_nil)))))))))) pss_nil)
      (pss_cons (ps_set (i := 5) sc__law_item.nd rfl (Or.inl rfl) (pe_lstN (pa_cons pe_str (pa_cons (pe_op op_add_str (pv 2) pe_str) (pa_cons (pe_upper (pv 2)) (pa_cons (pe_op op_add_str (pv 2) pe_str) (pa_cons pe_non (pa_cons pe_int (pa_cons (pe_lstN (pa_cons (pv 2) pa_nil)) (pa_cons (pe_op op_mulS (pv 2) pe_int) (pa_cons (pe_make T.mk_Place GP (hr.mono (by decide)) rfl T.g_Place hbP hvP passL (pa_cons (pv 2) pa_nil)) (pa_cons (pe_op op_add_str pe_str (pv 2)) pa_nil))))))))))))
      (Evl.pss_cut (ps_if (pt_cmpR op_eq (pv 1) pe_str (nomark _)) (pss_one (ps_set (i := 5) sc__law_item.nd rfl (Or.inl rfl) (pe_op op_catN (pv 5) (pe_lstN (pa_cons pe_str (pa_cons pe_str (pa_cons pe_str (pa_cons pe_str (pa_cons pe_str (pa_cons pe_str (pa_cons pe_str pa_nil))))))))))) (pss_one (ps_set (i := 2) sc__law_item.nd rfl (Or.inl rfl) (pe_ix ix_list (pe_lstN (pa_cons pe_str (pa_cons pe_str (pa_cons (pv 2) (pa_cons (pv 2) pa_nil))))) (C8.pe_c C__law_take hr (by decide) rfl (pa_cons (pv 0) (pa_cons pe_int pa_nil))) (fun _ _ => rfl)))))
      (pss_one (ps_ret (pe_ifExp (pt_val (pv 3)) (pe_lstN (pa_cons (pv 2) (pa_cons pe_bl pa_nil))) (pe_lstN (pa_cons (pe_ix ix_list (pv 5) (C8.pe_c C__law_take hr (by decide) rfl (pa_cons (pv 0) (pa_cons (pe_callB call_len_seq rfl T.f_len PySem.boot_len (pa_cons (pv 5) pa_nil)) pa_nil))) (fun _ _ => rfl)) (pa_cons pe_bl pa_nil))))))))))), ?_⟩
    obtain ⟨_, p, c, N, rfl, hc, hB, hN, q⟩ := h
    refine ⟨_, rfl, rfl, p, N, rfl, hB, by omega, fun z H1 gz B1 S1 => ?_⟩
    refine ⟨_, rfl, rfl, p, _, _, rfl, B1, by omega, by decide, by decide, fun r0 H2 r00 r01 B2 S2 => ⟨_, _, rfl, rfl, ?_⟩⟩
    refine ⟨_, rfl, rfl, _, rfl, ?_⟩
    rw [one_p]
    by_cases h1 : c = 112
    · rw [decide_eq_true h1]
      subst h1
      refine iteT ?_
      have zl := gz.len
      have l1 : ∀ d, (Str.mk #[d]).length = 1 := fun _ => rfl
      have lp : (Str.ofString "+").length = 1 := rfl
      have lm : (Str.ofString "-").length = 1 := rfl
      -- some
      refine ⟨_, rfl, _, rfl, _, _, rfl, rfl, by omega, _, rfl, rfl, p, _, _, rfl, B2, by omega, by decide, by decide, fun r1 H3 r10 r11 B3 S3 => ?_⟩
      obtain ⟨d1, hd1, hc1⟩ := atI_mem (xs := (Str.ofString "123").cps.toList) r10 (by exact r11)
      refine ⟨_, _, d1, rfl, rfl, by decide, hc1, _, _, rfl, rfl, by rw [str_app, l1]; omega, ?_⟩
      refine ⟨_, rfl, _, _, rfl, rfl, by omega, _, rfl, rfl, p, _, _, rfl, B3, by omega, by decide, by decide, fun r2 H4 r20 r21 B4 S4 => ?_⟩
      obtain ⟨d2, hd2, hc2⟩ := atI_mem (xs := (Str.ofString "123").cps.toList) r20 (by exact r21)
      refine ⟨_, _, d2, rfl, rfl, by decide, hc2, _, _, rfl, rfl, by rw [str_app, l1]; omega, (by show 3 ≤ sizeLine; decide), fun L1 H4' n1 s4 g1 => ?_⟩
      have B4' := B4.same s4
      have p1 : L1 ≠ p := (B4.ne n1).symm
      refine ⟨_, rfl, _, rfl, rfl, p, _, _, rfl, B4', by omega, by decide, by decide, fun r3 H5 r30 r31 B5 S5 => ?_⟩
      refine ⟨_, rfl, _, rfl, rfl, p, _, _, rfl, B5, by omega, by decide, by decide, fun r4 H6 r40 r41 B6 S6 => ?_⟩
      have ri : inR (.int (r4 - 3)) (leastS z) 3 = true := by
        rw [inR_int, name_least gz.1, decide_eq_true (by omega), decide_eq_true (by omega)]
        rfl
      refine ⟨_, _, rfl, rfl, rfl, rfl, fun x1 dx1 nx1 nd1 ne1 => ⟨rfl, x1, dx1, z, .int (r4 - 3), rfl, upd_same, ⟨Ask.int _, fun y e => nomatch e⟩, by omega, ?_, ?_, fun i hb hv hi H7 k7 h7 => ⟨rfl, ?_⟩⟩⟩
      · intro e
        rw [okB, gz.1, Bool.or_true] at e
        exact nomatch e
      · intro _ e
        rw [ri] at e
        exact nomatch e
      cases hv
      have s7 := made_same nx1 nd1 k7
      have B7 := B6.same s7
      have px1 : x1 ≠ p := (B6.ne nx1).symm
      refine ⟨_, rfl, rfl, p, _, _, rfl, B7, by omega, by decide, by decide, fun r5 H8 r50 r51 B8 S8 => ?_⟩
      obtain ⟨d3, hd3, hc3⟩ := atI_mem (xs := (Str.ofString "0123").cps.toList) r50 (by exact r51)
      refine ⟨_, _, d3, rfl, rfl, by decide, hc3, (by show 3 ≤ sizeLine; decide), fun M H8' nM s8 gM => ?_⟩
      have S48 : But p H4' H8 := ((S5.tr S6).same s7).tr S8
      refine ⟨L1, M, _, _, rfl, rfl, s8 _ _ (S48.at g1 p1), gM, (by show 6 ≤ sizeLine; decide), fun L2 H9 n2 s9 g2 => ?_⟩
      have B8' := B8.same s8
      have pL2 : L2 ≠ p := (B8'.ne n2).symm
      have B9 := B8'.same s9
      have S9 : But p H H9 := (((((S1.tr S2).tr (S3.tr S4)).same s4).tr S48).same s8).same s9
      have hx1 : wo p H9 x1 = some (.ins (He.ga K "Place") dx1 (pfs z (r4 - 3))) := by
        rw [wo_ne px1]
        exact s9 _ _ (s8 _ _ (S8.at h7 px1))
      have m1 := many_some (K := K) (H := wo p H9) gz.1 hd1 hd2 hd3 r30 r31 ⟨x1, dx1, rfl, hx1⟩
      have lz : ∀ y, y ∈ ["+4", "+0", "-", " ", "+1 ", "1+", "+01", "\n"] → (Str.ofString y).length ≤ 3 := by decide +kernel
      -- odd
      refine ⟨_, rfl, _, _, rfl, rfl, by have := lz "+4" (by decide); omega, _, rfl, _, _, rfl, rfl, by have := lz "+0" (by decide); omega, _, rfl, _, _, rfl, rfl, by have := lz "-" (by decide); omega, _, _, rfl, rfl, (by show 1 ≤ sizeLine; decide), fun a1 HA na1 sA ga1 => ?_⟩
      refine ⟨_, rfl, _, _, rfl, rfl, by have := lz " " (by decide); omega, _, rfl, _, _, rfl, rfl, by have := lz "+1 " (by decide); omega, (by show 11 ≤ sizeLine; decide), fun L3 HB n3 sB g3 => ?_⟩
      refine ⟨_, rfl, _, rfl, _, _, rfl, rfl, by have := lz "1+" (by decide); omega, _, rfl, ⟨_, rfl⟩, z, rfl, rfl, by omega, _, rfl, _, _, rfl, rfl, by have := lz "+01" (by decide); omega, _, rfl, _, _, rfl, rfl, by have := lz "\n" (by decide); omega, _, rfl, (by show 1 ≤ sizeLine; decide), fun a2 HC na2 sC ga2 => ?_⟩
      refine ⟨_, rfl, _, _, rfl, rfl, mul7_ok (by omega), (by show 7 ≤ sizeLine; decide), fun M2 HD nM2 sD gM2 => ?_⟩
      refine ⟨L3, M2, _, _, rfl, rfl, sD _ _ (sC _ _ g3), gM2, (by show 18 ≤ sizeLine; decide), fun L4 HE n4 sE g4 => ?_⟩
      have sAE : Same H9 HE := Same.tr sA (Same.tr sB (Same.tr sC (Same.tr sD sE)))
      have BE := B9.same sAE
      have pa1 : a1 ≠ p := (B9.ne na1).symm
      have pa2 : a2 ≠ p := ((B9.same (Same.tr sA sB)).ne na2).symm
      have pL4 : L4 ≠ p := ((B9.same (Same.tr sA (Same.tr sB (Same.tr sC sD)))).ne n4).symm
      have m2 := many_odd (K := K) (H := wo p HE) gz.1 T.kt_Place (by rw [wo_ne pa1]; exact sE _ _ (sD _ _ (sC _ _ (sB _ _ ga1)))) (by rw [wo_ne pa2]; exact sE _ _ (sD _ _ ga2))
      have m1' := m1.same (Same.wo sAE)
      have gE2 := sAE _ _ g2
      have SE : But p H HE := S9.same sAE
      have fx1 : H x1 = none := (((((S1.tr S2).tr (S3.tr S4)).same s4).tr S5).tr S6).free nx1 px1
      have fa1 : H a1 = none := S9.free na1 pa1
      have fa2 : H a2 = none := (S9.same (Same.tr sA sB)).free na2 pa2
      -- the answer
      refine ⟨_, rfl, _, rfl, ?_⟩
      refine ite2 (fun hs => ?_) (fun hs => ?_)
      · refine ⟨_, rfl, _, rfl, rfl, p, _, _, rfl, BE, by omega, by decide, by decide, fun r6 HF r60 r61 BF SF => ?_⟩
        obtain ⟨v, t, hcv, ht, hf, hv⟩ := m1'.at r60 (by exact r61)
        refine ⟨L2, _, _, v, rfl, rfl, lst_sq (SF.at gE2 pL2), hcv, (by show 2 ≤ sizeLine; decide), fun L5 HG n5 sG g5 => ?_⟩
        refine q L5 v t HG ((SE.tr SF).free n5 (BF.ne n5).symm) ((SE.tr SF).same sG) ((BF.same sG).mono (by omega)) (by rw [hf]; exact g5) (ht.same (Same.tr SF.wo (Same.wo sG))) ?_
        simp only [List.cons_append, List.nil_append, List.mem_cons, List.not_mem_nil, or_false] at hv
        intro a0 e0
        subst e0
        simp only [V.ref.injEq, reduceCtorEq, false_or, or_false] at hv
        first | exact hv ▸ fx1 | (rcases hv with e | e <;> first | exact e ▸ fa1 | exact e ▸ fa2)
      · refine ⟨_, rfl, _, rfl, rfl, p, _, _, rfl, BE, by omega, by decide, by decide, fun r6 HF r60 r61 BF SF => ?_⟩
        obtain ⟨v, t, hcv, ht, hf, hv⟩ := m2.at r60 (by exact r61)
        refine ⟨L4, _, _, v, rfl, rfl, lst_sq (SF.at g4 pL4), hcv, (by show 2 ≤ sizeLine; decide), fun L5 HG n5 sG g5 => ?_⟩
        refine q L5 v t HG ((SE.tr SF).free n5 (BF.ne n5).symm) ((SE.tr SF).same sG) ((BF.same sG).mono (by omega)) (by rw [hf]; exact g5) (ht.same (Same.tr SF.wo (Same.wo sG))) ?_
        simp only [List.cons_append, List.nil_append, List.mem_cons, List.not_mem_nil, or_false] at hv
        intro a0 e0
        subst e0
        simp only [V.ref.injEq, reduceCtorEq, false_or, or_false] at hv
        first | exact hv ▸ fx1 | (rcases hv with e | e <;> first | exact e ▸ fa1 | exact e ▸ fa2)
    · rw [decide_eq_false h1]
      refine iteF ?_
      have zl := gz.len
      have lz : ∀ y, y ∈ ["1", " ", "\n"] → (Str.ofString y).length ≤ 3 := by decide +kernel
      refine ⟨_, rfl, _, _, rfl, rfl, by have := lz "1" (by decide); omega, _, rfl, ⟨_, rfl⟩, z, rfl, rfl, by omega, _, rfl, _, _, rfl, rfl, by have := lz "\n" (by decide); omega, _, rfl, (by show 1 ≤ sizeLine; decide), fun a1 H3 na1 s3 ga1 => ?_⟩
      refine ⟨_, rfl, _, _, rfl, rfl, mul7_ok (by omega), _, rfl, fun x1 dx1 nx1 nd1 ne1 => ⟨rfl, x1, dx1, z, .int 0, rfl, upd_same, ⟨Ask.int _, fun y e => nomatch e⟩, by omega, ?_, ?_, fun i hb hv hi H4 k4 h4 => ⟨rfl, ?_⟩⟩⟩
      · intro e
        rw [okB, gz.1, Bool.or_true] at e
        exact nomatch e
      · intro _ e
        rw [inR_int, name_least gz.1] at e
        exact nomatch e
      cases hv
      have s4 := made_same nx1 nd1 k4
      refine ⟨_, rfl, _, _, rfl, rfl, by have := lz " " (by decide); omega, (by show 10 ≤ sizeLine; decide), fun L1 H5 nL1 s5 g1 => ?_⟩
      have B3 := B2.same s3
      have B4 := B3.same s4
      have B5 := B4.same s5
      have pa1 : a1 ≠ p := (B2.ne na1).symm
      have px1 : x1 ≠ p := (B3.ne nx1).symm
      have pL1 : L1 ≠ p := (B4.ne nL1).symm
      have S5 : But p H H5 := (((S1.tr S2).same s3).same s4).same s5
      have m1 := many_odd2 (K := K) (H := wo p H5) h1 gz.1 T.kt_Place (by rw [wo_ne pa1]; exact s5 _ _ (s4 _ _ ga1)) ⟨x1, dx1, rfl, (by rw [wo_ne px1]; exact s5 _ _ h4)⟩
      have fa1 : H a1 = none := (S1.tr S2).free na1 pa1
      have fx1 : H x1 = none := ((S1.tr S2).same s3).free nx1 px1
      have nw : ∀ u ∈ ([.str "", .str (z ++ "1"), .str (Txt.upper z), .str (z ++ "\n"), .non, .int 5, .ref a1, .str (Txt.mul z 7), .ref x1, .str (" " ++ z)] : List V), New H u := by
        intro u hu a0 e0
        subst e0
        simp only [List.mem_cons, List.not_mem_nil, or_false, V.ref.injEq, reduceCtorEq, false_or] at hu
        rcases hu with e | e
        · exact e ▸ fa1
        · exact e ▸ fx1
      refine ⟨fun σ' H' => ∃ (z2 : Str) (L : Addr) (us : List V), σ' = [some (.ref p), some (.str ⟨#[c]⟩), some (.str z2), some (.bl (decide (0 < r0))), none, some (.ref L)] ∧ z2.length ≤ 6 ∧ fitsT c (.str z2, .str z2) = true ∧ H' L = some (.lst us) ∧ L ≠ p ∧ 1 ≤ us.length ∧ us.length ≤ 20 ∧ Many K (wo p H') c false us ∧ (∀ u ∈ us, New H u) ∧ Bx H' p (N + 20) ∧ But p H H', ?_, ?_⟩
      · refine ⟨_, rfl, rfl, _, rfl, ?_⟩
        rw [one_m]
        by_cases h2 : c = 109
        · rw [decide_eq_true h2]
          refine iteT ⟨_, rfl, (by show 7 ≤ sizeLine; decide), fun M H6 nM s6 gM => ?_⟩
          refine ⟨L1, M, _, _, rfl, rfl, s6 _ _ g1, gM, (by show 17 ≤ sizeLine; decide), fun L2 H7 nL2 s7 g2 => ?_⟩
          refine ⟨z, L2, _, rfl, zl, fits_good hc h1 gz _, g2, ((B5.same s6).ne nL2).symm, (by show 1 ≤ 17; decide), (by show 17 ≤ 20; decide), ?_, ?_, ((B5.same s6).same s7).mono (by omega), (S5.same s6).same s7⟩
          · subst h2
            exact (m1.same (Same.wo (Same.tr s6 s7))).app many_res
          · intro u hu
            rcases List.mem_append.mp hu with hu | hu
            · exact nw u hu
            · simp only [List.mem_cons, List.not_mem_nil, or_false] at hu
              refine New.of fun a0 e0 => ?_
              subst e0
              simp only [reduceCtorEq, or_self] at hu
        · rw [decide_eq_false h2]
          refine iteF ⟨_, rfl, _, rfl, (by show 4 ≤ sizeLine; decide), fun M H6 nM s6 gM => ?_⟩
          have B6 := B5.same s6
          refine ⟨_, rfl, rfl, p, _, _, rfl, B6, by omega, by decide, by decide, fun r6 H7 r60 r61 B7 S7 => ?_⟩
          obtain ⟨v, hv, hcv⟩ := atI_mem (xs := [V.str "old", .str "none", .str z, .str z]) r60 (by exact r61)
          refine ⟨M, _, _, v, rfl, rfl, lst_sq (S7.at gM (B5.ne nM).symm), hcv, ?_⟩
          have m2 := (m1.same (Same.wo s6)).same S7.wo
          have fin : ∀ z2 : Str, z2.length ≤ 6 → nameS z2 = true → ∃ (z3 : Str) (L : Addr) (us : List V), ([some (.ref p), some (.str ⟨#[c]⟩), some (.str z2), some (.bl (decide (0 < r0))), none, some (.ref L1)] : L2.St) = [some (.ref p), some (.str ⟨#[c]⟩), some (.str z3), some (.bl (decide (0 < r0))), none, some (.ref L)] ∧ z3.length ≤ 6 ∧ fitsT c (.str z3, .str z3) = true ∧ H7 L = some (.lst us) ∧ L ≠ p ∧ 1 ≤ us.length ∧ us.length ≤ 20 ∧ Many K (wo p H7) c false us ∧ (∀ u ∈ us, New H u) ∧ Bx H7 p (N + 20) ∧ But p H H7 := by
            intro z2 l2 e2
            refine ⟨z2, L1, _, rfl, l2, ?_, S7.at (s6 _ _ g1) pL1, pL1, (by show 1 ≤ 10; decide), (by show 10 ≤ 20; decide), m2, nw, B7.mono (by omega), (S5.same s6).tr S7⟩
            unfold fitsT
            rw [if_neg h1, if_neg h2]
            exact e2
          simp only [List.mem_cons, List.not_mem_nil, or_false] at hv
          rcases hv with rfl | rfl | rfl | rfl
          · exact fin _ (by decide) (by decide +kernel)
          · exact fin _ (by decide) (by decide +kernel)
          · exact fin _ zl gz.1
          · exact fin _ zl gz.1
      · rintro σ' H6 ⟨z2, L, us, rfl, lz2, fz2, gL, pL, u1, u2, m2, nw2, B6, S6⟩
        refine ⟨_, rfl, _, rfl, ?_⟩
        refine ite2 (fun hs => ?_) (fun hs => ?_)
        · refine ⟨_, rfl, (by show 2 ≤ sizeLine; decide), fun L5 HG n5 sG g5 => ?_⟩
          exact q L5 (.str z2) (.str z2) HG (S6.free n5 (B6.ne n5).symm) (S6.same sG) ((B6.same sG).mono (by omega)) (by rw [fz2]; exact g5) (th_str (by omega)) (New.of fun a0 e0 => nomatch e0)
        · refine ⟨_, rfl, _, rfl, _, rfl, L, us, rfl, .inl (lst_sq gL), rfl, p, _, _, rfl, B6, by omega, by omega, by omega, fun r6 HF r60 r61 BF SF => ?_⟩
          obtain ⟨v, t, hcv, ht, hf, hv⟩ := m2.at r60 (by exact r61)
          refine ⟨L, _, _, v, rfl, rfl, lst_sq (SF.at gL pL), hcv, (by show 2 ≤ sizeLine; decide), fun L5 HG n5 sG g5 => ?_⟩
          exact q L5 v t HG ((S6.tr SF).free n5 (BF.ne n5).symm) ((S6.tr SF).same sG) ((BF.same sG).mono (by omega)) (by rw [hf]; exact g5) (ht.same (Same.tr SF.wo (Same.wo sG))) (nw2 v hv)
theorem cal__law_item (T : Tx w K mg) (pf : PF P)  : C8.Cal P w K mg base 5 "_law_item" (sp_item K) [] := by
  obtain ⟨fd, F⟩ := T.d__law_item
  exact ⟨_, fd, ["_law_box_here", "_law_letter"], [], fn__law_item T pf  F, T.g__law_item, F.kp, FunD.bindsN (ps := ["_law_box_here", "_law_letter"]) F (fun _ _ _ _ _ _ us hl => match us, hl with | [_, _], _ => rfl), .nil⟩

end
end G
namespace G
open PySem PySem.Spec PyProof.Rows L2
theorem sc__law_right : FnScope ["_law_thing", "_law_due", "_law_found"] ["_law_thing", "_law_due"] (defScope s__law_right) := ⟨rfl, rfl, rfl, by decide +kernel, rfl, by decide +kernel, by decide +kernel⟩
section
variable {P : Program} {w : World} {K : PySem.W.Frag} {mg : Str → Option Value} {base : Heap}
theorem fn__law_right (T : Tx w K mg)  {fd : FuncData} (F : FunD K d__law_right.name d__law_right.qual d__law_right.params d__law_right.body d__law_right.scope (d__law_right.dvs K) (d__law_right.kws K) (He.fAd K d__law_right.at_) fd) : FnOk P w K mg base CX0 7 (He.fAd K d__law_right.at_) fd ["_law_thing", "_law_due"] (sp_right K) := by
  refine F.ok sc__law_right (fun vs H Q E h => ?_) (fun cdv A outer s H vs Q E hr h => ?_)
  · exact lenOf h
  · have hu := hu_of hr
    have hu64 := hr.units
    have sz : 100000 ≤ sizeLine := by decide
    have C_is_step := cal_is_step (P := P) (w := w) (base := base) T
    refine ⟨_, PSs.nox (pss_cons (ps_set (i := 2) sc__law_right.nd rfl (Or.inl rfl) (pe_lstN (pa_cons (C8.pe_c C_is_step hr (by decide) rfl (pa_cons (pv 0) pa_nil)) (pa_cons (C8.pe_c C_is_step hr (by decide) rfl (pa_cons (pv 0) pa_nil)) pa_nil))))
      (pss_one (ps_ret (pe_and (pe_cmpR (op_eqD hu64) (pv 2) (pe_lstN (pa_cons (pv 1) (pa_cons (pv 1) pa_nil))) (nomark _)) (pe_one (pe_callB call_isi rfl T.f_isinstance PyProof.Rows.boot_isinstance (pa_cons (pe_ix ix_list (pv 2) pe_int (fun _ _ => rfl)) (pa_cons (pe_bltn (v := .ty "bool") rfl T.f_bool PyProof.Rows.boot_bool rfl) pa_nil)))))))), ?_⟩
    obtain ⟨_, v, b, o, rfl, ho, rfl, q⟩ := h
    refine ⟨_, rfl, rfl, v, o, rfl, ho, fun H1 s1 => ⟨_, rfl, rfl, v, o, rfl, ho.same s1, fun H2 s2 => ⟨(by show 2 ≤ sizeLine; decide), fun L H3 nL s3 gL => ?_⟩⟩⟩
    refine ⟨_, rfl, _, rfl, _, rfl, (by show 2 ≤ sizeLine; decide), fun M H4 nM s4 gM => ⟨_, _, bools2 (lst_sq (s4 _ _ gL)), bools2 (lst_sq gM), shaped2 _, shaped2 _, _, rfl, ?_⟩⟩
    rw [eqv2]
    refine iteT ⟨_, rfl, L, _, _, _, rfl, rfl, lst_sq (s4 _ _ gL), rfl, _, _, _, _, true, rfl, .ty _, .base (.bl _), kit_ty (r := true) (by decide +kernel), ?_⟩
    exact q H4 (Same.tr s1 (Same.tr s2 (Same.tr s3 s4)))
theorem cal__law_right (T : Tx w K mg)  : C8.Cal P w K mg base 7 "_law_right" (sp_right K) [] := by
  obtain ⟨fd, F⟩ := T.d__law_right
  exact ⟨_, fd, ["_law_thing", "_law_due"], [], fn__law_right T  F, T.g__law_right, F.kp, FunD.bindsN (ps := ["_law_thing", "_law_due"]) F (fun _ _ _ _ _ _ us hl => match us, hl with | [_, _], _ => rfl), .nil⟩

end
end G
namespace G
open PySem PySem.Spec PyProof.Rows L2
theorem sc_law : FnScope ["_law_script", "_law_forms", "_law_k", "_law_box_here", "_law_word_here", "_law_form", "_law_items", "_law_step", "_law_more", "_law_at", "_law_wrong", "_law_thing", "_law_letter", "_law_item_here"] ["_law_script"] (defScope s_law) := ⟨rfl, rfl, rfl, by decide +kernel, rfl, by decide +kernel, by decide +kernel⟩
section
variable {P : Program} {w : World} {K : PySem.W.Frag} {mg : Str → Option Value} {base : Heap}
theorem fn_law (T : Tx w K mg) (pf : PF P)  {fd : FuncData} (F : FunD K d_law.name d_law.qual d_law.params d_law.body d_law.scope (d_law.dvs K) (d_law.kws K) (He.fAd K d_law.at_) fd) : FnOk P w K mg base CX0 9 (He.fAd K d_law.at_) fd ["_law_script"] (sp_law K) := by
  refine F.ok sc_law (fun vs H Q E h => ?_) (fun cdv A outer s H vs Q E hr h => ?_)
  · exact lenOf h
  · have hu := hu_of hr
    have hu64 := hr.units
    have sz : 100000 ≤ sizeLine := by decide
    have C__law_cell := cal__law_cell (P := P) (w := w) (base := base) T
    have C__law_box := cal__law_box (P := P) (w := w) (base := base) T
    have C__law_take := cal__law_take (P := P) (w := w) (base := base) T
    have C__law_right := cal__law_right (P := P) (w := w) (base := base) T
    have C__law_item := cal__law_item (P := P) (w := w) (base := base) T pf
    refine ⟨_, PSs.nox (pss_cons (ps_set (i := 1) sc_law.nd rfl (Or.inl rfl) (pe_lstN (pa_cons (pe_tupN (pa_cons pe_str (pa_cons pe_str pa_nil))) (pa_cons (pe_tupN (pa_cons pe_str (pa_cons pe_str pa_nil))) (pa_cons (pe_tupN (pa_cons pe_str (pa_cons pe_str pa_nil))) (pa_cons (pe_tupN (pa_cons pe_str (pa_cons pe_str pa_nil))) (pa_cons (pe_tupN (pa_cons pe_str (pa_cons pe_str pa_nil))) (pa_cons (pe_tupN (pa_cons pe_str (pa_cons pe_str pa_nil))) pa_nil))))))))
      (pss_cons (ps_set (i := 1) sc_law.nd rfl (Or.inl rfl) (pe_op op_catN (pv 1) (pe_lstN (pa_cons (pe_tupN (pa_cons pe_str (pa_cons pe_str pa_nil))) (pa_cons (pe_tupN (pa_cons pe_str (pa_cons pe_str pa_nil))) (pa_cons (pe_tupN (pa_cons pe_str (pa_cons pe_str pa_nil))) pa_nil))))))
      (pss_cons (ps_for PassesOwn.never rfl (pi_range1 rfl T.f_range (pa_cons (pe_callB (call_max2 rfl) rfl T.f_max PyProof.Rows.boot_max (pa_cons pe_int (pa_cons (pe_callB (call_min2 rfl) rfl T.f_min (by decide +kernel) (pa_cons pe_int (pa_cons (pe_callB call_len_seq rfl T.f_len PySem.boot_len (pa_cons (pv 0) pa_nil)) pa_nil))) pa_nil))) pa_nil)) (pg_name (i := 2) sc_law.nd rfl (Or.inl rfl)) (pss_cons (ps_set (i := 3) sc_law.nd rfl (Or.inr rfl) (C8.pe_c C__law_box hr (by decide) rfl (pa_cons (C8.pe_c C__law_cell hr (by decide) rfl (pa_cons (pv 0) (pa_cons (pv 2) pa_nil))) pa_nil)))
      (pss_cons (ps_asg (pe_ix ix_list (pv 1) (C8.pe_c C__law_take hr (by decide) rfl (pa_cons (pv 3) (pa_cons pe_int pa_nil))) (fun _ _ => rfl)) (pg_tup rfl (pgs_cons (pg_name (i := 4) sc_law.nd rfl (Or.inl rfl)) (pgs_cons (pg_name (i := 5) sc_law.nd rfl (Or.inl rfl)) pgs_nil))))
      (pss_cons (ps_setLc (i := 6) (own := [("_law_letter", 12)]) (g := gName 12) (tt := tYes) rfl sc_law.nd rfl rfl (sw_true rfl rfl rfl (by decide +kernel)) (pi_str (pv 5)) (blkOk_by (N := ["_law_script", "_law_forms", "_law_k", "_law_box_here", "_law_word_here", "_law_form", "_law_items", "_law_step", "_law_more", "_law_at", "_law_wrong", "_law_thing", "_law_letter", "_law_item_here"]) (sc := defScope s_law) (by decide +kernel)) (fun _ _ _ _ _ => (pg_name (i := 12) sc_law.nd rfl (Or.inl rfl))) (fun _ _ _ _ _ => pts_nil) (fun _ _ _ _ _ => (C8.pe_c C__law_item hr (by decide) rfl (pa_cons (pv 3) (pa_cons (pv 12) pa_nil)))))
      (pss_cons (ps_set (i := 7) sc_law.nd rfl (Or.inl rfl) (pe_callTy call_tupleN rfl T.f_tuple (by decide +kernel) (pa_cons (pe_op op_catN (pe_lstN (pa_cons (pv 4) pa_nil)) (pe_lc (own := [("_law_item_here", 13)]) (g := gName 13) (tt := tYes) rfl sc_law.nd (pi_list (pv 6)) (blkOk_by (N := ["_law_script", "_law_forms", "_law_k", "_law_box_here", "_law_word_here", "_law_form", "_law_items", "_law_step", "_law_more", "_law_at", "_law_wrong", "_law_thing", "_law_letter", "_law_item_here"]) (sc := defScope s_law) (by decide +kernel)) (fun _ _ _ _ _ => (pg_name (i := 13) sc_law.nd rfl (Or.inl rfl))) (fun _ _ _ _ _ => pts_nil) (fun _ _ _ _ _ => (pe_ix (r := rIxL K) ix_list (pv 13) pe_int (fun _ _ => rfl))))) pa_nil)))
      (pss_cons (ps_if (pt_not (pt_val (C8.pe_c C__law_right hr (by decide) rfl (pa_cons (pv 7) (pa_cons (pe_cmpR (op_eqNil hu64) (pe_lc (own := [("_law_item_here", 13)]) (g := gName 13)  rfl sc_law.nd (pi_list (pv 6)) (blkOk_by (N := ["_law_script", "_law_forms", "_law_k", "_law_box_here", "_law_word_here", "_law_form", "_law_items", "_law_step", "_law_more", "_law_at", "_law_wrong", "_law_thing", "_law_letter", "_law_item_here"]) (sc := defScope s_law) (by decide +kernel)) (fun _ _ _ _ _ => (pg_name (i := 13) sc_law.nd rfl (Or.inl rfl))) (fun _ _ _ _ _ => (pts_one (pt_not (pt_val (pe_ix (r := rIxL K) ix_list (pv 13) pe_int (fun _ _ => rfl)))))) (fun _ _ _ _ _ => (pv 13))) (pe_lstN pa_nil) (nomark _)) pa_nil))))) (pss_one (ps_ret pe_bl)) pss_nil)
      (pss_cons (ps_set (i := 8) sc_law.nd rfl (Or.inl rfl) (pe_ix ix_list (C8.pe_c C__law_item hr (by decide) rfl (pa_cons (pv 3) (pa_cons (pe_ix ix_str pe_str (C8.pe_c C__law_take hr (by decide) rfl (pa_cons (pv 3) (pa_cons pe_int pa_nil))) (fun _ _ => rfl)) pa_nil))) pe_int (fun _ _ => rfl)))
      (pss_cons (ps_set (i := 9) sc_law.nd rfl (Or.inl rfl) (pe_op op_add pe_int (C8.pe_c C__law_take hr (by decide) rfl (pa_cons (pv 3) (pa_cons (pe_callB call_len_seq rfl T.f_len PySem.boot_len (pa_cons (pv 7) pa_nil)) pa_nil)))))
      (pss_cons (ps_set (i := 10) sc_law.nd rfl (Or.inl rfl) (pe_lstN (pa_cons (pe_slice sl_tupA (pv 7) po_none (po_some (pe_un un_neg pe_int))) (pa_cons (pe_op op_catA (pe_op op_catA (pe_slice sl_tupA (pv 7) po_none (po_some (pv 9))) (pe_tupN (pa_cons (pv 8) pa_nil))) (pe_slice sl_tupA (pv 7) (po_some (pv 9)) po_none)) (pa_cons (pe_callTy call_listN rfl T.f_list (by decide +kernel) (pa_cons (pv 7) pa_nil)) (pa_cons (pe_op op_catA (pe_tupN (pa_cons (pe_upper (pv 4)) pa_nil)) (pe_slice sl_tupA (pv 7) (po_some pe_int) po_none)) (pa_cons (pe_tupN pa_nil) (pa_cons (pe_tupN (pa_cons (pv 4) pa_nil)) pa_nil))))))))
      (pss_cons (ps_set (i := 10) sc_law.nd rfl (Or.inl rfl) (pe_op op_catN (pv 10) (pe_lstN (pa_cons (pv 4) (pa_cons pe_non (pa_cons (pe_op op_catA (pe_tupN (pa_cons pe_non pa_nil)) (pe_slice sl_tupA (pv 7) (po_some pe_int) po_none)) (pa_cons (pe_op op_catA (pe_tupN (pa_cons (pe_op op_add_str (pv 4) pe_str) pa_nil)) (pe_slice sl_tupA (pv 7) (po_some pe_int) po_none)) (pa_cons (pe_op op_catA (pe_tupN (pa_cons (pe_lstN (pa_cons (pv 4) pa_nil)) pa_nil)) (pe_slice sl_tupA (pv 7) (po_some pe_int) po_none)) pa_nil))))))))
      (pss_one (ps_for PassesOwn.never rfl (pi_list (pv 10)) (pg_name (i := 11) sc_law.nd rfl (Or.inl rfl)) (pss_one (ps_if (pt_not (pt_val (C8.pe_c C__law_right hr (by decide) rfl (pa_cons (pv 11) (pa_cons pe_bl pa_nil))))) (pss_one (ps_ret pe_bl)) pss_nil))))))))))))))
      (pss_one (ps_ret pe_bl))))), ?_⟩
    obtain ⟨_, a, ns, rfl, hS, hlen, k⟩ := h
    refine ⟨(by show 2 ≤ sizeLine; decide), fun a1 H1 n1 s1 g1 => ⟨(by show 2 ≤ sizeLine; decide), fun a2 H2 n2 s2 g2 => ⟨(by show 2 ≤ sizeLine; decide), fun a3 H3 n3 s3 g3 => ⟨(by show 2 ≤ sizeLine; decide), fun a4 H4 n4 s4 g4 => ⟨(by show 2 ≤ sizeLine; decide), fun a5 H5 n5 s5 g5 => ⟨(by show 2 ≤ sizeLine; decide), fun a6 H6 n6 s6 g6 => ⟨(by show 6 ≤ sizeLine; decide), fun LA HA nA sA gA => ?_⟩⟩⟩⟩⟩⟩⟩
    refine ⟨_, rfl, ⟨(by show 2 ≤ sizeLine; decide), fun a7 H7 n7 s7 g7 => ⟨(by show 2 ≤ sizeLine; decide), fun a8 H8 n8 s8 g8 => ⟨(by show 2 ≤ sizeLine; decide), fun a9 H9 n9 s9 g9 => ⟨(by show 3 ≤ sizeLine; decide), fun LB HB nB sB gB => ?_⟩⟩⟩⟩⟩
    have s79 : Same HA HB := Same.tr s7 (Same.tr s8 (Same.tr s9 sB))
    refine ⟨LA, LB, _, _, rfl, rfl, s79 _ _ gA, gB, (by show 9 ≤ sizeLine; decide), fun LF HF nF sF gF => ?_⟩
    have hF : FrAt HF LF := by
      have t9 := Same.tr sB sF
      have t8 := Same.tr s9 t9
      have t7 := Same.tr s8 t8
      have t6 := Same.tr sA (Same.tr s7 t7)
      have t5 := Same.tr s6 t6
      have t4 := Same.tr s5 t5
      have t3 := Same.tr s4 t4
      have t2 := Same.tr s3 t3
      have t1 := Same.tr s2 t2
      refine ⟨[a1, a2, a3, a4, a5, a6, a7, a8, a9], gF, rfl, fun i b x e1 e2 => ?_⟩
      match i, e1, e2 with
      | 0, e1, e2 => cases e1; cases e2; exact t1 _ _ g1
      | 1, e1, e2 => cases e1; cases e2; exact t2 _ _ g2
      | 2, e1, e2 => cases e1; cases e2; exact t3 _ _ g3
      | 3, e1, e2 => cases e1; cases e2; exact t4 _ _ g4
      | 4, e1, e2 => cases e1; cases e2; exact t5 _ _ g5
      | 5, e1, e2 => cases e1; cases e2; exact t6 _ _ g6
      | 6, e1, e2 => cases e1; cases e2; exact t7 _ _ g7
      | 7, e1, e2 => cases e1; cases e2; exact t8 _ _ g8
      | 8, e1, e2 => cases e1; cases e2; exact t9 _ _ g9
      | _ + 9, e1, _ => exact nomatch e1
    have s0F : Same H HF := Same.tr s1 (Same.tr s2 (Same.tr s3 (Same.tr s4 (Same.tr s5 (Same.tr s6 (Same.tr sA (Same.tr s79 sF)))))))
    have hS' := Same.sqL s0F hS
    refine ⟨_, rfl, a, _, rfl, .inl hS', _, _, rfl, _, _, rfl, _, rfl, ?_, ?_, ?_⟩
    · rw [List.length_map]
      split <;> split <;> omega
    · rw [List.length_map]
      split <;> split <;> omega
    rw [List.length_map]
    refine for_range (fun _ σ H' => ∃ x2 x3 x4 x5 x6 x7 x8 x9 x10 x11 : Option V, σ = [some (.ref a), some (.ref LF), x2, x3, x4, x5, x6, x7, x8, x9, x10, x11, none, none] ∧ Same HF H') ⟨_, _, _, _, _, _, _, _, _, _, rfl, Same.rfl'⟩ ?_ ?_
    · rintro i σ H1 hi ⟨x2, x3, x4, x5, x6, x7, x8, x9, x10, x11, rfl, s1⟩
      have hi2 : i ≤ 100 := by
        have : i < 11 := Nat.lt_of_lt_of_le hi (by split <;> split <;> omega)
        omega
      -- box
      refine ⟨_, rfl, _, rfl, rfl, a, ns, i, (by rw [Int.zero_add]; rfl), Same.sqL s1 hS', hi2, fun c => ⟨rfl, c, rfl, fun p H2 np s2 B2 => ?_⟩⟩
      have npF : HF p = none := Same.un s1 np
      have S2 : But p HF H2 := But.of (Same.tr s1 s2)
      have nLF : LF ≠ p := fun e => by rw [e, npF] at gF; exact nomatch gF
      -- word, form
      refine ⟨_, rfl, _, rfl, rfl, p, _, _, rfl, B2, by omega, by decide, by decide, fun r H3 r0 r1 B3 S3 => ?_⟩
      obtain ⟨as, hL, las, hts⟩ := hF
      obtain ⟨j, rfl⟩ := Int.eq_ofNat_of_zero_le r0
      have hj : j < 9 := by omega
      have ej : as[j]? = some as[j] := List.getElem?_eq_getElem (by omega)
      have ej2 : FTAB[j]? = some FTAB[j] := List.getElem?_eq_getElem (by show j < 9; omega)
      generalize hx : FTAB[j]'(by show j < 9; omega) = x at ej2
      have hxm : x ∈ FTAB := List.mem_of_getElem? ej2
      have S13 : But p HF H3 := S2.tr S3
      have gj := hts j _ x ej ej2
      have naj : as[j] ≠ p := fun e => by rw [e, npF] at gj; exact nomatch gj
      refine ⟨LF, _, _, _, rfl, rfl, lst_sq (S13.at hL nLF), atI_nat (by rw [List.getElem?_map, ej]; rfl), _, _, rfl, tup_sq (S13.at gj naj), rfl, _, _, rfl, _, _, rfl, rfl, ?_⟩
      obtain ⟨fl3, fl1⟩ := form_len (form_of hxm)
      -- items
      refine ⟨_, rfl, x.2, rfl, fun D hD => lc_it (tt := tYes) walk_str (fun i H' => ∃ ts : List Tr, ts.map (·.1) = x.2.cps.toList.take i ∧ H' D = some (.lst (ts.map fun t => .ref t.2.1)) ∧ (∀ t ∈ ts, TrD K p D H' t) ∧ But p H3 H' ∧ Bx H' p (1 + 40 * i)) ?_ (fun _ _ _ _ => trivial) ?_ ?_⟩
      · exact ⟨[], rfl, upd_same, (fun t ht => nomatch ht), (But.of Same.rfl').new hD, B3.same (Same.new hD)⟩
      · rintro i1 y H4 H5 hi1 ⟨ts, e1, e2, e3, e4, e5⟩ ⟨rfl, c, hc, rfl⟩
        have hi3 : i1 < 3 := Nat.lt_of_lt_of_le hi1 fl3
        refine ⟨rfl, ?_⟩
        unfold tYes
        refine iteT ⟨_, rfl, _, rfl, rfl, p, c, _, rfl, form_let hxm (List.mem_of_getElem? (by rw [Array.getElem?_toList]; exact hc)), e5, by omega, fun L v t H6 nL S6 B6 gL tL nv => ?_⟩
        have nDp : D ≠ p := (B3.ne hD).symm
        have nLp : L ≠ p := (e5.ne nL).symm
        have nLD : L ≠ D := fun e => by rw [e, e2] at nL; exact nomatch nL
        refine ⟨_, S6.at e2 nDp, ?_, ts ++ [(c, L, v, t)], ?_, ?_, ?_, ?_, ?_⟩
        · have l1 := congrArg List.length e1
          rw [List.length_map, List.length_take] at l1
          rw [List.length_map]
          exact Nat.lt_of_lt_of_le (by omega : ts.length < 10) (by decide)
        · rw [List.map_append, e1, List.take_add_one, Array.getElem?_toList, hc] <;> rfl
        · rw [upd_same, List.map_append] <;> rfl
        · intro t1 ht1
          refine TrD.upd ?_
          rcases List.mem_append.mp ht1 with h1 | h1
          · exact (e3 t1 h1).but S6
          · rw [List.mem_singleton.mp h1]
            refine ⟨⟨gL, nLp, tL⟩, nLD, fun b eb en => ?_⟩
            have := nv b eb
            rw [en, e2] at this
            exact nomatch this
        · exact (e4.tr S6).chg' hD
        · obtain ⟨b1, b2, b3, hp, h4⟩ := B6.mono (by omega : 1 + 40 * i1 + 40 ≤ 1 + 40 * (i1 + 1))
          exact ⟨b1, b2, b3, by rw [upd_ne nDp.symm]; exact hp, h4⟩
      rintro H4 ⟨ts, e1, e2, e3, e4, e5⟩
      rw [show x.2.cps.size = x.2.cps.toList.length from Array.length_toList.symm, List.take_length] at e1
      have tl : ts.length = x.2.length := by
        have := congrArg List.length e1
        rw [List.length_map] at this
        exact this.trans Array.length_toList
      have e5 := e5.mono (show 1 + 40 * x.2.cps.size ≤ 200 by have : x.2.cps.size ≤ 3 := fl3; omega)
      have xl := form_wl hxm
      have fo := form_of hxm
      -- step
      refine ⟨_, rfl, (by show 1 ≤ sizeLine; decide), fun W H5 nW s5 gW => ⟨_, rfl, D, rfl, ⟨_, lst_sq (s5 _ _ e2)⟩, fun E hE => lc_mapL (fun t : Tr => V.ref t.2.1) (fun t => t.2.2.1) (lst_sq (s5 _ _ e2)) (by omega) hE (fun _ => rfl) ?_ ?_⟩⟩
      · intro t ht H6 s6 Q' hq
        exact ⟨_, rfl, t.2.1, _, _, _, rfl, rfl, lst_sq (s6 _ _ (s5 _ _ (e3 t ht).1.1)), rfl, hq H6 Same.rfl'⟩
      intro H6 s6 gE
      refine ⟨W, E, _, _, rfl, rfl, s6 _ _ gW, gE, (by rw [List.length_map, List.length_singleton]; omega), fun S H7 nS s7 gS => ⟨S, _, rfl, lst_sq gS, fun st H8 nst s8 gst => ?_⟩⟩
      have s48 : Same H4 H8 := Same.tr s5 (Same.tr s6 (Same.tr s7 s8))
      generalize hps : ts.map (·.2.2) = ps at *
      have gst' : H8 st = some (.tup (List.map Prod.fst ((V.str x.1, Th.str x.1) :: ps))) := by
        rw [gst, ← hps, List.map_cons, List.map_map]
        rfl
      have pl : ps.length = x.2.length := by rw [← hps, List.length_map]; exact tl
      have ath : AllTh K (wo p H8) ps := by
        intro y hy
        rw [← hps] at hy
        obtain ⟨t, ht, rfl⟩ := List.mem_map.mp hy
        exact (e3 t ht).1.2.2.same (Same.wo s48)
      have B8 := e5.same s48
      -- right
      refine ⟨_, rfl, _, rfl, D, rfl, ⟨_, lst_sq (s48 _ _ e2)⟩, fun E2 hE2 => lc_filtL (fun t : Tr => V.ref t.2.1) (fun t => V.ref t.2.1) (fun t => !fitsT t.1 t.2.2) (lst_sq (s48 _ _ e2)) (by omega) hE2 (fun _ => rfl) ?_ ?_ ?_⟩
      · intro t ht H9 s9 Q' hq
        exact ⟨_, rfl, t.2.1, _, _, _, rfl, rfl, lst_sq (s9 _ _ (s48 _ _ (e3 t ht).1.1)), rfl, _, rfl, hq H9 Same.rfl'⟩
      · intro t ht _ H9 s9 Q' hq
        exact ⟨_, rfl, hq H9 Same.rfl'⟩
      intro H9 s9 gE2
      refine ⟨(by decide), fun Z H10 nZ s10 gZ => ⟨E2, Z, _, rfl, rfl, lst_sq (s10 _ _ gE2), lst_sq gZ, rfl, .ref st, _, some ((V.str x.1, Th.str x.1) :: ps), rfl, ?_, ?_, fun H11 s11 => ⟨_, rfl, iteF ?_⟩⟩⟩
      · refine ⟨⟨st, rfl, s10 _ _ (s9 _ _ gst')⟩, ?_, by rw [List.length_cons]; omega⟩
        intro y hy
        rcases List.mem_cons.mp hy with rfl | hy
        · exact th_str (by show x.1.length ≤ 1000; omega)
        · exact ((ath y hy).same (wo_same p H8)).same (Same.tr s9 s10)
      · simp only [stepO]
        rw [← hps]
        exact step_of fo e1
      have s811 : Same H8 H11 := Same.tr s9 (Same.tr s10 s11)
      have B11 := B8.same s811
      -- more
      refine ⟨_, rfl, _, rfl, rfl, p, _, _, rfl, B11, by omega, by decide, by decide, fun r2 H12 r20 r21 B12 S12 => ?_⟩
      obtain ⟨d, hd, hcd⟩ := atI_mem (xs := (Str.ofString "pmn").cps.toList) r20 (by exact r21)
      have dl : LetC d := by
        rw [show (Str.ofString "pmn").cps.toList = [112, 109, 110] by decide +kernel] at hd
        simpa [LetC] using hd
      refine ⟨_, _, d, rfl, rfl, by decide, hcd, rfl, p, d, _, rfl, dl, B12, by omega, fun L v t H13 nL S13' B13 gL tL nv => ⟨L, _, _, _, rfl, rfl, lst_sq gL, rfl, ?_⟩⟩
      have S813 : But p H8 H13 := ((But.of s811).tr S12).tr S13'
      have nst' : st ≠ p := fun e => by
        obtain ⟨_, _, _, hp, _⟩ := B8
        rw [← e, gst] at hp
        exact nomatch hp
      have g13 := S813.at gst' nst'
      -- at
      refine ⟨_, rfl, _, rfl, st, _, rfl, .inr (tup_sq g13), rfl, p, _, _, rfl, B13, by omega, ?_, ?_, fun r3 H14 r30 r31 B14 S14 => ⟨_, _, rfl, rfl, ?_⟩⟩
      · rw [List.length_map, List.length_cons]
        omega
      · rw [List.length_map, List.length_cons]
        omega
      have S814 := S813.tr S14
      have g14 := S814.at gst' nst'
      obtain ⟨m, rfl⟩ := Int.eq_ofNat_of_zero_le r30
      have hm : m ≤ ps.length := by
        rw [List.length_map, List.length_cons] at r31
        omega
      have e1m : (1 : Int) + ((m : Nat) : Int) = ((m + 1 : Nat) : Int) := by omega
      have ath14 : AllTh K H14 ps := (ath.same S814.wo).same (wo_same p H14)
      have mor14 : ThAt K H14 v t := (tL.same S14.wo).same (wo_same p H14)
      have wth : ThAt K H14 (.str x.1) (.str x.1) := th_str (by omega)
      have fth : AllTh K H14 ((V.str x.1, Th.str x.1) :: ps) := fun y hy => by
        rcases List.mem_cons.mp hy with rfl | hy
        · exact wth
        · exact ath14 y hy
      have fl : ((V.str x.1, Th.str x.1) :: ps).length ≤ 100 := by rw [List.length_cons]; omega
      have hst : TpA H14 (.ref st) (List.map Prod.fst ((V.str x.1, Th.str x.1) :: ps)) := ⟨st, rfl, g14⟩
      have lc : ∀ l : List VT, (l.map Prod.fst).length = l.length := fun l => List.length_map _
      -- step[:-1]
      refine ⟨_, rfl, _, rfl, _, rfl, slA hst fun u1 H15 s15 t1 => ?_⟩
      rw [cut_last] at t1
      -- step[:at] + (more,) + step[at:]
      refine ⟨_, rfl, _, rfl, _, rfl, slA (hst.same s15) fun u2 H16 s16 t2 => ?_⟩
      refine ⟨_, rfl, (by show 1 ≤ sizeLine; decide), fun a2 H17 n17 s17 g17 => catA (t2.same s17) ⟨a2, rfl, g17⟩ ?_ fun u3 H18 s18 t3 => ?_⟩
      · exact Nat.le_trans (Nat.add_le_add_right (cutV_length _ _ _) _) (by rw [lc, List.length_cons]; show ps.length + 1 + 1 ≤ sizeLine; omega)
      refine ⟨_, rfl, _, rfl, _, rfl, slA_n (hst.same (Same.tr s15 (Same.tr s16 (Same.tr s17 s18)))) fun u4 H19 s19 t4 => catA (t3.same s19) t4 ?_ fun u5 H20 s20 t5 => ?_⟩
      · have z1 := cutV_length (List.map Prod.fst ((V.str x.1, Th.str x.1) :: ps)) none (some (1 + (m : Int)))
        have z2 := cutV_length (List.map Prod.fst ((V.str x.1, Th.str x.1) :: ps)) (some (1 + (m : Int))) none
        rw [lc, List.length_cons] at z1 z2
        rw [List.length_append, List.length_singleton]
        omega
      have c2 : cutV (List.map Prod.fst ((V.str x.1, Th.str x.1) :: ps)) none (some (1 + (m : Int))) = (((V.str x.1, Th.str x.1) :: ps).take (m + 1)).map Prod.fst := by
        rw [e1m]
        exact cut_to _ (by rw [List.length_cons]; omega)
      have c4 : cutV (List.map Prod.fst ((V.str x.1, Th.str x.1) :: ps)) (some (1 + (m : Int))) none = (((V.str x.1, Th.str x.1) :: ps).drop (m + 1)).map Prod.fst := by
        rw [e1m]
        exact cut_from _ (by rw [List.length_cons]; omega)
      have c1 : cutV (List.map Prod.fst ((V.str x.1, Th.str x.1) :: ps)) (some 1) none = ps.map Prod.fst := cut_from ((V.str x.1, Th.str x.1) :: ps) (k := 1) (by rw [List.length_cons]; omega)
      rw [c2, c4] at t5
      have s1420 : Same H14 H20 := Same.tr s15 (Same.tr s16 (Same.tr s17 (Same.tr s18 (Same.tr s19 s20))))
      have hst20 := hst.same s1420
      -- list(step)
      refine ⟨_, rfl, st, _, rfl, .inr (tup_sq (s1420 _ _ g14)), fun l6 H21 n21 s21 g21 => ?_⟩
      -- (upper,) + step[1:]
      refine ⟨_, rfl, ⟨_, rfl⟩, x.1, rfl, rfl, by omega, (by show 1 ≤ sizeLine; decide), fun a7 H22 n22 s22 g22 => ⟨_, rfl, _, rfl, slA_n (hst20.same (Same.tr s21 s22)) fun u7 H23 s23 t7 => ?_⟩⟩
      rw [c1] at t7
      refine catA ⟨a7, rfl, s23 _ _ g22⟩ t7 (by rw [lc]; show 1 + ps.length ≤ sizeLine; omega) fun u8 H24 s24 t8 => ?_
      -- (), (word,)
      refine ⟨(by decide), fun a9 H25 n25 s25 g25 => ⟨_, rfl, (by show 1 ≤ sizeLine; decide), fun a10 H26 n26 s26 g26 => ⟨(by show 6 ≤ sizeLine; decide), fun W1 H27 n27 s27 gW1 => ?_⟩⟩⟩
      have s2027 : Same H20 H27 := Same.tr s21 (Same.tr s22 (Same.tr s23 (Same.tr s24 (Same.tr s25 (Same.tr s26 s27)))))
      have hst27 := hst20.same s2027
      have lsp : (Str.ofString " ").length = 1 := rfl
      -- word, None, (None,) + step[1:]
      refine ⟨_, rfl, _, rfl, (by show 1 ≤ sizeLine; decide), fun a11 H28 n28 s28 g28 => ⟨_, rfl, _, rfl, slA_n (hst27.same s28) fun u11 H29 s29 t11 => ?_⟩⟩
      rw [c1] at t11
      refine catA ⟨a11, rfl, s29 _ _ g28⟩ t11 (by rw [lc]; show 1 + ps.length ≤ sizeLine; omega) fun u12 H30 s30 t12 => ?_
      refine ⟨_, rfl, _, _, rfl, rfl, by rw [lsp]; omega, (by show 1 ≤ sizeLine; decide), fun a13 H31 n31 s31 g31 => ⟨_, rfl, _, rfl, slA_n (hst27.same (Same.tr s28 (Same.tr s29 (Same.tr s30 s31)))) fun u13 H32 s32 t13 => ?_⟩⟩
      rw [c1] at t13
      refine catA ⟨a13, rfl, s32 _ _ g31⟩ t13 (by rw [lc]; show 1 + ps.length ≤ sizeLine; omega) fun u14 H33 s33 t14 => ?_
      refine ⟨_, rfl, (by show 1 ≤ sizeLine; decide), fun a15 H34 n34 s34 g34 => ⟨(by show 1 ≤ sizeLine; decide), fun a16 H35 n35 s35 g35 => ⟨_, rfl, _, rfl, slA_n (hst27.same (Same.tr s28 (Same.tr s29 (Same.tr s30 (Same.tr s31 (Same.tr s32 (Same.tr s33 (Same.tr s34 s35)))))))) fun u16 H36 s36 t16 => ?_⟩⟩⟩
      rw [c1] at t16
      refine catA ⟨a16, rfl, s36 _ _ g35⟩ t16 (by rw [lc]; show 1 + ps.length ≤ sizeLine; omega) fun u17 H37 s37 t17 => ?_
      refine ⟨(by show 5 ≤ sizeLine; decide), fun W2 H38 n38 s38 gW2 => ?_⟩
      have s2738 : Same H27 H38 := Same.tr s28 (Same.tr s29 (Same.tr s30 (Same.tr s31 (Same.tr s32 (Same.tr s33 (Same.tr s34 (Same.tr s35 (Same.tr s36 (Same.tr s37 s38)))))))))
      refine ⟨W1, W2, _, _, rfl, rfl, s2738 _ _ gW1, gW2, (by show 11 ≤ sizeLine; decide), fun W H39 n39 s39 gW => ?_⟩
      have s2039 := Same.tr s2027 (Same.tr s2738 s39)
      have s1439 := Same.tr s1420 s2039
      have ath39 : AllTh K H39 ps := ath14.same s1439
      have hd : ∀ {y : VT} {qs : List VT}, ThAt K H39 y.1 y.2 → AllTh K H39 qs → AllTh K H39 (y :: qs) := fun h1 h2 z hz => by
        rcases List.mem_cons.mp hz with rfl | hz
        · exact h1
        · exact h2 z hz
      have sub : ∀ {qs : List VT}, (∀ y ∈ qs, y ∈ ps) → AllTh K H39 qs := fun h y hy => ath39 y (h y hy)
      have wth39 : ThAt K H39 (V.str x.1, Th.str x.1).1 (V.str x.1, Th.str x.1).2 := wth.same s1439
      have pn : ps ≠ [] := fun e => by rw [e, List.length_nil] at pl; omega
      have s2739 := Same.tr s2738 s39
      have s3039 : Same H30 H39 := Same.tr s31 (Same.tr s32 (Same.tr s33 (Same.tr s34 (Same.tr s35 (Same.tr s36 (Same.tr s37 (Same.tr s38 s39)))))))
      have s3339 : Same H33 H39 := Same.tr s34 (Same.tr s35 (Same.tr s36 (Same.tr s37 (Same.tr s38 s39))))
      have all : ∀ y ∈ ([u1, u5, .ref l6, u8, .ref a9, .ref a10] ++ [.str x.1, .non, u12, u14, u17] : List V), NoSt K H39 y := by
        intro y hy
        simp only [List.cons_append, List.nil_append, List.mem_cons, List.not_mem_nil, or_false] at hy
        rcases hy with rfl | rfl | rfl | rfl | rfl | rfl | rfl | rfl | rfl | rfl | rfl
        · rw [List.dropLast_cons_of_ne_nil pn] at t1
          refine nost (t1.same (Same.tr (Same.tr s16 (Same.tr s17 (Same.tr s18 (Same.tr s19 s20)))) s2039)) (hd wth39 (sub fun y hy => List.dropLast_subset _ hy)) ?_ (no_len fo ?_)
          · rw [List.length_cons, List.length_dropLast]; omega
          · rw [List.length_dropLast]; omega
        · rw [List.take_succ_cons, List.drop_succ_cons] at t5
          refine nost (qs := (V.str x.1, Th.str x.1) :: (ps.take m ++ [(v, t)] ++ ps.drop m)) ?_ (hd wth39 ?_) ?_ (no_len fo ?_)
          · have := t5.same s2039
            simpa using this
          · intro y hy
            simp only [List.mem_append, List.mem_singleton] at hy
            rcases hy with (hy | rfl) | hy
            · exact ath39 y (List.mem_of_mem_take hy)
            · exact mor14.same s1439
            · exact ath39 y (List.mem_of_mem_drop hy)
          · simp only [List.length_cons, List.length_append, List.length_take, List.length_drop, List.length_nil]; omega
          · simp only [List.length_cons, List.length_append, List.length_take, List.length_drop, List.length_nil]; omega
        · exact nost_no ⟨_, .base (.lst ((Same.tr s22 (Same.tr s23 (Same.tr s24 (Same.tr s25 (Same.tr s26 (Same.tr s27 s2739)))))) _ _ g21)), kit_ty (r := false) (by decide +kernel)⟩
        · refine nost (qs := (.str (Txt.upper x.1), .str (Txt.upper x.1)) :: ps) (t8.same (Same.tr s25 (Same.tr s26 (Same.tr s27 s2739)))) (hd (th_str ?_) ath39) (by rw [List.length_cons]; omega) (no_form (form_up hxm))
          exact (by decide +kernel : ∀ x ∈ FTAB, (Txt.upper x.1).length ≤ 1000) x hxm
        · exact nost (qs := []) ⟨a9, rfl, (Same.tr s26 (Same.tr s27 s2739)) _ _ g25⟩ (fun y hy => nomatch hy) (by decide) rfl
        · refine nost (qs := [(V.str x.1, Th.str x.1)]) ⟨a10, rfl, (Same.tr s27 s2739) _ _ g26⟩ (hd wth39 (fun y hy => nomatch hy)) (by show 1 ≤ 100; decide) (no_len fo ?_)
          rw [List.length_nil]
          omega
        · exact nost_no ⟨_, .base (.str _), kit_ty (r := false) (by decide +kernel)⟩
        · exact nost_no ⟨_, .base .non, kit_ty (r := false) (by decide +kernel)⟩
        · exact nost (qs := (.non, .oth) :: ps) (t12.same s3039) (hd (th_oth (.base .non) Ask.non (T.kt_Place _ (by decide)) (fun _ e => nomatch e) (fun _ e => nomatch e)) ath39) (by rw [List.length_cons]; omega) (no_head fun _ e => nomatch e)
        · refine nost (qs := (.str (x.1 ++ " "), .str (x.1 ++ " ")) :: ps) (t14.same s3339) (hd (th_str ?_) ath39) (by rw [List.length_cons]; omega) (no_form (form_sp hxm))
          show (x.1 ++ " ").length ≤ 1000
          rw [str_app, lsp]
          omega
        · have g15 := (Same.tr s35 (Same.tr s36 (Same.tr s37 (Same.tr s38 s39)))) _ _ g34
          exact nost (qs := (.ref a15, .oth) :: ps) (t17.same (Same.tr s38 s39)) (hd (th_oth (.base (.lst g15)) (Ask.lst g15) (T.kt_Place _ (by decide)) (fun _ e => nomatch e) (fun _ e => nomatch e)) ath39) (by rw [List.length_cons]; omega) (no_head fun _ e => nomatch e)
      have S39 : Same HF H39 := fun b o hb => by
        have nb : b ≠ p := fun e => by rw [e, npF] at hb; exact nomatch hb
        exact s1439 _ _ (S814.at (s48 _ _ (e4.at (S13.at hb nb) nb)) nb)
      -- the loop
      refine ⟨_, rfl, W, rfl, ⟨_, lst_sq gW⟩, ?_⟩
      refine for_list (K := K) (a := W) (xs := [u1, u5, .ref l6, u8, .ref a9, .ref a10] ++ [.str x.1, .non, u12, u14, u17]) (fun _ σ Hz => ∃ y2 y3 y4 y5 y6 y7 y8 y9 y10 y11 : Option V, σ = [some (.ref a), some (.ref LF), y2, y3, y4, y5, y6, y7, y8, y9, y10, y11, none, none] ∧ Same H39 Hz) ⟨_, _, _, _, _, _, _, _, _, _, rfl, Same.rfl'⟩ ?_ ?_ ?_
      · rintro j σ Hz hj ⟨y2, y3, y4, y5, y6, y7, y8, y9, y10, y11, rfl, sz⟩
        exact lst_sq (sz _ _ gW)
      · rintro j y σ Hz hj ⟨y2, y3, y4, y5, y6, y7, y8, y9, y10, y11, rfl, sz⟩
        obtain ⟨o, ho, eo⟩ := (all y (List.mem_of_getElem? hj)).same sz
        exact ⟨_, rfl, rfl, y, false, o, rfl, ho, eo, fun Hy sy => ⟨_, rfl, iteF ⟨_, _, _, _, _, _, _, _, _, _, rfl, Same.tr sz sy⟩⟩⟩
      · rintro σ Hz ⟨y2, y3, y4, y5, y6, y7, y8, y9, y10, y11, rfl, sz⟩
        exact ⟨_, _, _, _, _, _, _, _, _, _, rfl, Same.tr S39 sz⟩
    · rintro σ H1 ⟨x2, x3, x4, x5, x6, x7, x8, x9, x10, x11, rfl, s1⟩
      exact k H1

end
end G
set_option maxHeartbeats 0
namespace G
open PySem PySem.Spec PyProof.Rows L2
abbrev R : PySem.W.OpenRow := PySem.W.OpenLaw.row PySem.Challenge.rw_mapsizes_k21_steps_known
abbrev hk : PySem.W.Hook := hookZ 6 fa fn ts xs ex
def ob (s : PySem.W.SharedT) : AlZ := obsZ 6 fa fn ts xs ex (HandSHeadRun.getT s)
theorem ob_eq (s : PySem.W.SharedT) : ob s = hk.obs s.abs := obsZ_eq (HandSHeadRun.getT_eq s)
def loose : List PySem.Str := (["__name__", "MapError", "InvalidInteger", "InvalidName", "InvalidPlace", "Unordered", "LETTERS", "RESERVED", "MOST_LETTERS", "MOST_SHIFT", "SIGNS", "is_integer", "is_name", "is_mark", "least_shift", "parts_of", "pair_of", "is_place", "Place", "FORMS", "fits", "is_step", "_law_cell", "_law_box", "_law_take", "_law_word", "_law_item", "_law_right"] : List PySem.Str)
abbrev RunAt (w : World) : Prop := HandSHeadRun.RunEq R (PySem.W.view R.prog [31]) hk ob 6000 loose w
theorem run_false (w : World) : RunAt (w.withFollow "special-get-raises" false) := by
  intro os
  kernel_rfl
theorem run_true (w : World) : RunAt (w.withFollow "special-get-raises" true) := by
  intro os
  kernel_rfl
theorem run (w : World) : RunAt w := PySem.W.byRow2 "special-get-raises" (P := RunAt) run_false run_true w
theorem mkT {w : World} {h : Heap} {K : PySem.W.Frag} {mg : Str → Option Value} (X : K.In h) (Gm : h.Ns mainGlobals mg) (c : SaysZ fa fn ts xs ex w K) : Tx w K mg := by
  have cd := c.t.d
  exact {
    g_is_integer := He.glo_ok X Gm (cd.fact 0 (f := .glo "is_integer") rfl)
    g_is_name := He.glo_ok X Gm (cd.fact 1 (f := .glo "is_name") rfl)
    g_is_mark := He.glo_ok X Gm (cd.fact 2 (f := .glo "is_mark") rfl)
    g_least_shift := He.glo_ok X Gm (cd.fact 3 (f := .glo "least_shift") rfl)
    g_parts_of := He.glo_ok X Gm (cd.fact 4 (f := .glo "parts_of") rfl)
    g_pair_of := He.glo_ok X Gm (cd.fact 5 (f := .glo "pair_of") rfl)
    g_is_place := He.glo_ok X Gm (cd.fact 6 (f := .glo "is_place") rfl)
    g_fits := He.glo_ok X Gm (cd.fact 7 (f := .glo "fits") rfl)
    g_is_step := He.glo_ok X Gm (cd.fact 8 (f := .glo "is_step") rfl)
    g__law_cell := He.glo_ok X Gm (cd.fact 9 (f := .glo "_law_cell") rfl)
    g__law_box := He.glo_ok X Gm (cd.fact 10 (f := .glo "_law_box") rfl)
    g__law_take := He.glo_ok X Gm (cd.fact 11 (f := .glo "_law_take") rfl)
    g__law_word := He.glo_ok X Gm (cd.fact 12 (f := .glo "_law_word") rfl)
    g__law_item := He.glo_ok X Gm (cd.fact 13 (f := .glo "_law_item") rfl)
    g__law_right := He.glo_ok X Gm (cd.fact 14 (f := .glo "_law_right") rfl)
    g_law := He.glo_ok X Gm (cd.fact 15 (f := .glo "law") rfl)
    g_Place := He.glo_ok X Gm (cd.fact 16 (f := .glo "Place") rfl)
    g_RESERVED := He.glo_ok X Gm (cd.fact 17 (f := .glo "RESERVED") rfl)
    g_SIGNS := He.glo_ok X Gm (cd.fact 18 (f := .glo "SIGNS") rfl)
    g_FORMS := He.glo_ok X Gm (cd.fact 19 (f := .glo "FORMS") rfl)
    g_InvalidInteger := He.glo_ok X Gm (cd.fact 20 (f := .glo "InvalidInteger") rfl)
    g_InvalidName := He.glo_ok X Gm (cd.fact 21 (f := .glo "InvalidName") rfl)
    f_isinstance := He.free_ok X Gm (cd.fact 22 (f := .free "isinstance") rfl)
    f_int := He.free_ok X Gm (cd.fact 23 (f := .free "int") rfl)
    f_bool := He.free_ok X Gm (cd.fact 24 (f := .free "bool") rfl)
    f_str := He.free_ok X Gm (cd.fact 25 (f := .free "str") rfl)
    f_tuple := He.free_ok X Gm (cd.fact 26 (f := .free "tuple") rfl)
    f_list := He.free_ok X Gm (cd.fact 27 (f := .free "list") rfl)
    f_len := He.free_ok X Gm (cd.fact 28 (f := .free "len") rfl)
    f_all := He.free_ok X Gm (cd.fact 29 (f := .free "all") rfl)
    f_max := He.free_ok X Gm (cd.fact 30 (f := .free "max") rfl)
    f_min := He.free_ok X Gm (cd.fact 31 (f := .free "min") rfl)
    f_range := He.free_ok X Gm (cd.fact 32 (f := .free "range") rfl)
    f_zip := He.free_ok X Gm (cd.fact 33 (f := .free "zip") rfl)
    c_MOST_LETTERS := (He.int_ok X Gm (cd.fact 34 (f := .int "MOST_LETTERS" 6) rfl)).elim fun t h => ⟨_, h, t, rfl⟩
    c_MOST_SHIFT := (He.int_ok X Gm (cd.fact 35 (f := .int "MOST_SHIFT" 3) rfl)).elim fun t h => ⟨_, h, t, rfl⟩
    c_LETTERS := (He.str_ok X Gm (cd.fact 36 (f := .str "LETTERS" "abcdefghijklmnopqrstuvwxyz") rfl)).elim fun t h => ⟨_, h, t, rfl⟩
    c_RESERVED := ⟨_, He.glo_ok X Gm (cd.fact 17 (f := .glo "RESERVED") rfl), rfl⟩
    c_SIGNS := ⟨_, He.glo_ok X Gm (cd.fact 18 (f := .glo "SIGNS") rfl), rfl⟩
    c_FORMS := ⟨_, He.glo_ok X Gm (cd.fact 19 (f := .glo "FORMS") rfl), rfl⟩
    d_is_integer := cd.def_ 0 (d := d_is_integer) rfl
    d_is_name := cd.def_ 1 (d := d_is_name) rfl
    d_is_mark := cd.def_ 2 (d := d_is_mark) rfl
    d_least_shift := cd.def_ 3 (d := d_least_shift) rfl
    d_parts_of := cd.def_ 4 (d := d_parts_of) rfl
    d_pair_of := cd.def_ 5 (d := d_pair_of) rfl
    d_is_place := cd.def_ 6 (d := d_is_place) rfl
    d_Place___init__ := cd.def_ 7 (d := d_Place___init__) rfl
    d_fits := cd.def_ 8 (d := d_fits) rfl
    d_is_step := cd.def_ 9 (d := d_is_step) rfl
    d__law_cell := cd.def_ 10 (d := d__law_cell) rfl
    d__law_box := cd.def_ 11 (d := d__law_box) rfl
    d__law_take := cd.def_ 12 (d := d__law_take) rfl
    d__law_word := cd.def_ 13 (d := d__law_word) rfl
    d__law_item := cd.def_ 14 (d := d__law_item) rfl
    d__law_right := cd.def_ 15 (d := d__law_right) rfl
    d_law := cd.def_ 16 (d := d_law) rfl
    e_InvalidInteger := ex_of (He.glo_ok X Gm (cd.fact 20 (f := .glo "InvalidInteger") rfl)) (c.xnAt 0 (d := x_InvalidInteger) rfl) (exAt c.more 0 rfl)
    e_InvalidName := ex_of (He.glo_ok X Gm (cd.fact 21 (f := .glo "InvalidName") rfl)) (c.xnAt 1 (d := x_InvalidName) rfl) (exAt c.more 1 rfl)
    p_Place_base := prop_of (Bool.and_eq_true_iff.mp (exAt c.more 2 rfl)).1
    d_Place_base := funD_of (c.xnAt 2 (d := x_Place_base) rfl) (Bool.and_eq_true_iff.mp (exAt c.more 2 rfl)).2
    p_Place_shift := prop_of (Bool.and_eq_true_iff.mp (exAt c.more 3 rfl)).1
    d_Place_shift := funD_of (c.xnAt 3 (d := x_Place_shift) rfl) (Bool.and_eq_true_iff.mp (exAt c.more 3 rfl)).2
    k_SIGNS := c.t.tab 0 (t := (fun K => He.ga K "SIGNS", ["+", "-"])) rfl
    k_FORMS := c.t.tab 1 (t := (fun K => He.ga K "FORMS", ["cut", "write", "read", "look", "store", "test", "sync", "lock", "unlock"])) rfl
    cl_Place := He.cls_ok (cd.fact 37 (f := .cls "Place") rfl)
    nb_Place := He.noat_ok (cd.fact 38 (f := .noat "Place" "own_base") rfl)
    ns_Place := He.noat_ok (cd.fact 39 (f := .noat "Place" "own_shift") rfl)
    mk_Place := He.mkr_ok (cd.fact 40 (f := .mkr "Place") rfl)
    t_RES := fun H => He.tupB_ok (exAt c.more 4 rfl) H
    i_Place := (exAt c.more 5 rfl)
    v_SIGNS := Bool.and_eq_true_iff.mp (exAt c.more 6 rfl)
    kt_Place := fun b hb => of_decide_eq_true (List.all_eq_true.mp (exAt c.more 7 rfl) b hb)
    v_FORMS := Bool.and_eq_true_iff.mp (exAt c.more 8 rfl)
  }
end G
namespace G
open PySem PySem.Spec PyProof.Rows L2
theorem facts {P : Program} (pf : PF P) {w : World} {K : PySem.W.Frag} {h : Heap} {mg : Str → Option Value} {f : Addr} (X : K.In h) (Gm : h.Ns mainGlobals mg) (hf : mg ("law" : Str) = some (.ref f)) (c : SaysZ fa fn ts xs ex w K) :
    ∃ fd : FuncData, (∀ (s : Shared) (v : Value), BindsTo s fd ⟨[v], []⟩ [("_law_script", v)]) ∧ ∀ bs : Heap, K.In bs → bs.Ns mainGlobals mg → FnG P w K mg bs CX0 9 f fd ["_law_script"] (sp_law K) := by
  have T := mkT X Gm c
  obtain ⟨fd, F⟩ := T.d_law
  have e := hf.symm.trans T.g_law
  cases e
  have b := FunD.bindsA (ps := ["_law_script"]) F fun _ _ _ _ _ _ us hl => match us, hl with | [_], _ => rfl
  exact ⟨fd, fun s v => b s [v] rfl, fun bs _ _ => FnG.of (fn_law T pf F)⟩
end G
open PySem PySem.W PySem.Calls PyProof.Rows
set_option maxHeartbeats 0 in
theorem PySem.Challenge.cw_mapsizes_k21_steps_known_holds : PySem.Challenge.rw_mapsizes_k21_steps_known.Holds := by
  w_on; o_law
  refine HandSHeadRun.head_any (r := G.R) (q := view G.R.prog [31]) (H := G.hk) (ob := G.ob) (M := 6000) (loose := G.loose) (d := HandSHeadRun.topDef G.R.prog 31) (kwd := []) G.ob_eq
    (by kernel_rfl) (fun s => by kernel_rfl) G.run (by kernel_rfl) (by kernel_rfl) (by kernel_rfl) (by rfl) (by first | assumption | decide +kernel) (by decide +kernel) ⟨rfl, rfl, rfl, rfl, rfl, by decide +kernel⟩ ?hw ?hc
  case hw => w_witness2
  case hc =>
    refine G.walk_G (l := PySem.Challenge.rw_mapsizes_k21_steps_known) (n := 63) (k := 9) (x := "_law_script") (CX := fun _ => L2.CX0) rfl (by decide) (by kernel_rfl) ⟨rfl, by decide, by decide⟩ ?F (fun _ _ _ _ _ z => z)
    intro w mg fa h Y Gm hmg0
    obtain ⟨K, KX, c⟩ := Y
    have hmg : mg ("law" : PySem.Str) = some (.ref fa) := by
      have e : (HandSHeadRun.topDef G.R.prog 31).name = ("law" : PySem.Str) := by kernel_rfl
      rw [← e]
      exact hmg0
    obtain ⟨fd, hb, hF⟩ := G.facts (P := (PySem.Challenge.rw_mapsizes_k21_steps_known).prog) ⟨by kernel_rfl, by kernel_rfl⟩ (w := w) KX Gm hmg c
    exact ⟨K, fd, G.sp_law K, KX, hb, fun H a ns hl hS => ⟨rfl, a, ns, rfl, hS, hl, fun _ => rfl⟩, hF⟩
#print axioms PySem.Challenge.cw_mapsizes_k21_steps_known_holds

