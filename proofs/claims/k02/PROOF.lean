import PyProof.Rows.All
import Wide.All
import OpenK.AllK
import Wide.FinOn
import KE.KStateDown
import Lean
import HandS.ForMost
import HandS.ForExc
import HandS.Defaults
import HandS.IsInst
import HandS.MakeKwOnly
import HandS.MakeKw
import HandS.Walk
import HandS.Evl
import HandS.Codes
import HandS.Flow
import HandS.Style
import HandS.Head0
import HandS.Head1
import HandS.Head2
import HandS.HeadEnd
import HandS.HeadHook1
import HandS.HeadHook2
import HandS.HeadHook3
import HandS.HeadHook4
import PySem.Challenge.RW_mapsizes_k02_integers_names_marks
set_option Elab.async false
set_option linter.all false
set_option maxRecDepth 100000
set_option maxHeartbeats 4000000
local macro_rules | `(tactic| walk_at "s") => `(tactic| repeat (first | refine ⟨_, rfl, ?_⟩ | refine ⟨_, _, rfl, rfl, ?_⟩ | refine iteT ?_ | refine iteF ?_ | refine ⟨_, rfl, rfl, ?_⟩))
namespace G
open PySem PySem.Spec PyProof.Rows L2
/-! ### defs that are called where nothing is being shown (repr's guards are empty) -/
structure FnG (P : Program) (w : World) (K : PySem.W.Frag) (mg : Str → Option Value) (bs : Heap) (CX : CXT) (k : Nat) (f : Addr) (fd : FuncData) (ps : List Str) (sp : Sp) : Prop where
  num : ∀ vs H Q E, sp vs H Q E → vs.length = ps.length
  go : ∀ (A : Around) (out : List Env) (s : Shared) (H : Hp) (ar : Args) (us : List Value) (vs : List V) (Q : VK) (E : XK), A.guards = some [] → Room k A → Env0 P w K mg bs A out s H →
    BindsTo s fd ar (ps.zip us) → Vals vs us → sp vs H Q E → codeAny (model P w) A (.call (.ref f) ar) (CR CX out P w H s Q E) s
theorem FnG.of {P : Program} {w : World} {K : PySem.W.Frag} {mg : Str → Option Value} {bs : Heap} {CX : CXT} {k : Nat} {f : Addr} {fd : FuncData} {ps : List Str} {sp : Sp} (F : FnOk P w K mg bs CX k f fd ps sp) : FnG P w K mg bs CX k f fd ps sp :=
  ⟨F.len, fun A out s H ar us vs Q E _ => F.run A out s H ar us vs Q E⟩
theorem fng_of {CX : CXT} {P : Program} {w : World} {K : PySem.W.Frag} {mg : Str → Option Value} {bs : Heap} {k : Nat} {f : Addr} {nm ql : Str} {pr : Arguments} {bd : List Stmt} {sc : Scope} {dV kV dc pm cv ct oc : Value} {an od : Option Addr}
    {sl : Array (Option Value)} {N ps : List Str} {sp : Sp} (lk : K.lookup f = some ⟨oc, od, .func (PySem.W.fnOf nm ql pr bd sc dV kV dc pm an cv ct), sl⟩) (hc : PySem.W.codeIn K cv ql = true) (S : FnScope N ps sc)
    (num : ∀ vs H Q E, sp vs H Q E → vs.length = ps.length)
    (hb : ∀ (A : Around) (out : List Env) (s : Shared) (H : Hp) (vs : List V) (Q : VK) (E : XK), A.guards = some [] → Room k (A.deeper (envOfC ql sc s.heap.objs.size f cv)) → sp vs H Q E →
      ∃ t, PSs (cxOf CX P w K mg bs N ql sc f cv A out s H E) bd t ∧ t { nx := fun _ H' => Q .non H', rt := Q } (start N vs) H) :
    FnG P w K mg bs CX (k + 1) f (PySem.W.fnOf nm ql pr bd sc dV kV dc pm an cv ct) ps sp := by
  refine ⟨num, fun A out s H ar us vs Q E hgu hr e0 hbi r hsp => ?_⟩
  -- at this A the body is walked as in any other def
  have B : ∀ (A' : Around) (out' : List Env) (s' : Shared) (H' : Hp) (vs' : List V) (Q' : VK) (E' : XK), Room k (A'.deeper (envOfC ql sc s'.heap.objs.size f cv)) → (sp vs' H' Q' E' ∧ A'.guards = some []) →
      ∃ t, PSs (cxOf CX P w K mg bs N ql sc f cv A' out' s' H' E') bd t ∧ t { nx := fun _ G' => Q' .non G', rt := Q' } (start N vs') H' := fun A' out' s' H' vs' Q' E' hr' h' => hb A' out' s' H' vs' Q' E' h'.2 hr' h'.1
  have hl := num _ _ _ _ hsp
  have KX : K.In s.heap := e0.mod.kin.keeps fun b o e => (e0.bs b o e).1
  have lim : s.heap.NoLimit := e0.mod.nolimit.keeps fun b o e => (e0.bs b o e).1
  have hk : ∀ y ∈ ps.zip us, sc.names.lookup y.1 = some .local ∨ (sc.names.lookup y.1 = some .cell ∧ ((cellsFrom (s.heap.objs.size + 1) sc.names []).lookup y.1).isSome = true) := by
    rintro ⟨n, v⟩ hy
    rcases S.par n (List.of_mem_zip hy).1 with q | q
    · exact Or.inl q
    · exact Or.inr ⟨q, PySem.W.cellsFrom_some _ _ _ (Or.inl q)⟩
  refine codeAny_call_function hr.depth (KX _ _ lk) rfl S.co S.gen rfl (PySem.W.codeRec_of KX hc) (hbi _ _ _ _ ?_)
  refine wpAny_newFunctionEnv_cells S.kind hk fun env he s1 x => ?_
  subst he
  refine ⟨lim.keeps x.toInCall.keep, codeAny_func ?_⟩
  obtain ⟨t, ht, hq⟩ := B A out s H vs Q E (hr.deeper _) ⟨hsp, hgu⟩
  have I : Inv (cxOf CX P w K mg bs N ql sc f cv A out s H E) [] (start N vs) H s1 := inv_start S hr.hd e0 hl r x
  refine wpAny_mono (ht.run [] s1 (start N vs) H _ I hq) (fun fl s' hs => ?_) fun e s' hs => hs
  cases fl with
  | ret u =>
    obtain ⟨v, σ', H', J, rv, q⟩ := hs
    exact ⟨v, H', J.os, J.bare, J.base, J.hok, rv, q⟩
  | next =>
    obtain ⟨σ', H', J, q⟩ := hs
    exact ⟨V.non, H', J.os, J.bare, J.base, J.hok, rfl, q⟩
  | brk => exact hs.elim fun _ z => z.elim fun _ z => z.2.elim
  | cont => exact hs.elim fun _ z => z.elim fun _ z => z.2.elim
theorem FunD.okG {P : Program} {w : World} {K : PySem.W.Frag} {mg : Str → Option Value} {bs : Heap} {x ql : Str} {pr : Arguments} {bd : List Stmt} {sc : Scope} {dvs : List V} {kws : List (Str × V)} {f : Addr} {fd : FuncData} {CX : CXT} {N ps : List Str} {k : Nat} {sp : Sp}
    (F : FunD K x ql pr bd sc dvs kws f fd) (S : FnScope N ps sc) (num : ∀ vs H Q E, sp vs H Q E → vs.length = ps.length)
    (hb : ∀ (cv : Value) (A : Around) (out : List Env) (s : Shared) (H : Hp) (vs : List V) (Q : VK) (E : XK), A.guards = some [] → Room k (A.deeper (envOfC ql sc s.heap.objs.size f cv)) → sp vs H Q E →
      ∃ t, PSs (cxOf CX P w K mg bs N ql sc f cv A out s H E) bd t ∧ t { nx := fun _ H' => Q .non H', rt := Q } (start N vs) H) : FnG P w K mg bs CX (k + 1) f fd ps sp := by
  obtain ⟨oc, od, dV, kV, dc, pm, an, cv, ct, sl, rfl, lk, hcd, _, _⟩ := F.ex
  exact fng_of lk hcd S num (hb cv)
section
variable {X : Cx} {CX : CXT} {k : Nat} {f : Addr} {fd : FuncData} {ps ks : List Str} {sp : Sp} {dvs : List V} {ds : List Value} {E : XK} {x : Str} {p pos : Pos} {e : Expr} {es : List Expr} {kws : List Keyword} {t tk : TA}
theorem run_G {pins : List (Addr × Obj)} {σ : L2.St} {H : Hp} {s : Shared} {Q : VK} {us : List Value} {vs : List V} (F : FnG X.prog X.w X.K X.mg X.base CX k f fd ps sp) (gu : X.A.guards = some []) (hr : Room k X.A) (hb : Binds X.K fd ps ds) (hd : Vals dvs ds) (hx : Passes CX X E)
    (I : Inv X pins σ H s) (r : Vals vs us) (h : sp (vs ++ dvs) H Q E) : wpAny (model X.prog X.w) X.A (call (.ref f) us) (EP X pins σ Q) X.xe s := by
  have rr : Vals (vs ++ dvs) (us ++ ds) := r.append hd
  have hl : (us ++ ds).length = ps.length := rr.length.symm.trans (F.num _ _ _ _ h)
  refine wpAny_call (codeAny_mono (F.go X.A X.stack s H ⟨us, []⟩ (us ++ ds) (vs ++ dvs) Q E gu hr I.env0 (hb s us I.kIn hl) rr h) fun z s' hq => ?_)
  cases z with
  | error b => exact hx pins σ H s b s' I hq
  | ok fl => cases fl with
    | ret u => exact I.after hq
    | next => exact hq.elim
    | brk => exact hq.elim
    | cont => exact hq.elim
theorem pe_callG (F : FnG X.prog X.w X.K X.mg X.base CX k f fd ps sp) (gu : X.A.guards = some []) (hr : Room k X.A) (hg : Gl X x) (hm : X.mg x = some (.ref f)) (hk : PySem.W.keepIn X.K (.ref f) = true) (hb : Binds X.K fd ps ds) (hd : Vals dvs ds) (hx : Passes CX X E)
    (ha : PA X (e :: es) t) (h1 : (x == ("__debug__" : Str)) = false := by decide) (h2 : starEach (e :: es) X.env = (false, eval e X.env) :: starEach es X.env := by rfl) (h3 : (backTo pos (starEach es X.env)).any (·.1) = false := by rfl) :
    PE X (.Call (.Name x p) (e :: es) [] pos) (tCall sp dvs E t) :=
  ⟨fun pins s σ H Q I h => wpAny_Call_Name_kw (ld_glob I hg hm (PySem.W.callWith_K (h₀ := X.base) I.ok.mod.kin hk (thn (ha.run pos pins s σ H _ I h) fun us s1 ⟨vs, H1, I1, r, q⟩ => ⟨I1.kIn, run_G F gu hr hb hd hx I1 r q⟩) h2 h3) h1)⟩
/-! ### f(k = v, ..), no positional value -/
theorem pe_callN0 {g : List Value → List Value → List Value} {gV : List V → List V → List V} (F : FnOk X.prog X.w X.K X.mg X.base CX k f fd ps sp) (hr : Room k X.A) (hg : Gl X x) (hm : X.mg x = some (.ref f)) (hk : PySem.W.keepIn X.K (.ref f) = true) (hb : KBn X.K fd ps 0 ks g gV) (hx : Passes CX X E) (hkw : PK X kws tk)
    (h1 : (backToKw pos (keywordEach kws X.env)).all (·.1.isSome) = true := by rfl) (h2 : (backToKw pos (keywordEach kws X.env)).filterMap (·.1) = ks := by rfl) (h3 : (x == ("__debug__" : Str)) = false := by decide)
    (h4 : ((backTo pos (starEach [] X.env)).any (·.1) || (backToKw pos (keywordEach kws X.env)).any (·.1.isNone)) = false := by rfl) :
    PE X (.Call (.Name x p) [] kws pos) (tCallN 0 ks.length sp gV E tNil tk) := by
  refine ⟨fun pins s σ H Q I h => wpAny_Call_Name_kw (ld_glob I hg hm (PySem.W.callWith_KW0 (h₀ := X.base) I.ok.mod.kin hk h1 (thn (hkw.run pos pins s σ H _ I h) fun ws s2 ⟨zs, H2, I2, rz, l1, l2, q2⟩ => ⟨I2.kIn, ?_⟩) h4) h3)⟩
  rw [h2]
  exact run_fnN (us := []) (vs := []) F hr hb hx I2 .nil rz rfl l2 q2
end
/-- keywords for a def without defaults: g puts the values in the parameters' order -/
theorem FunD.kbindsN {K : PySem.W.Frag} {x ql : Str} {pr : Arguments} {bd : List Stmt} {sc : Scope} {kws : List (Str × V)} {f : Addr} {fd : FuncData} {ps : List Str} (F : FunD K x ql pr bd sc [] kws f fd) (n : Nat) (ks : List Str) (g : {α : Type} → List α → List α → List α)
    (hrel : ∀ {vs zs : List V} {us ws : List Value}, Vals vs us → Vals zs ws → Vals (g vs zs) (g us ws))
    (h : ∀ (kV doc pm : Value) (an : Option Addr) (cv ct : Value) (us ws : List Value), us.length = n → ws.length = ks.length → bindArgs (PySem.W.fnOf x ql pr bd sc .none kV doc pm an cv ct) ⟨us, ks.zip ws⟩ = pure (ps.zip (g us ws))) :
    KBn K fd ps n ks (fun us ws => g us ws) (fun vs zs => g vs zs) := by
  obtain ⟨oc, od, dV, kV, dc, pm, an, cv, ct, sl, rfl, lk, hcd, hD, hK⟩ := F.ex
  rcases hD with ⟨_, rfl⟩ | ⟨e, _⟩
  · exact ⟨fun s us ws _ l1 l2 => .of_eq (h kV dc pm an cv ct us ws l1 l2), fun r1 r2 => hrel r1 r2⟩
  · exact absurd rfl e
/-! ### repr of lists and tuples of plain things -/
theorem call_reprD {X : Cx} (gu : X.A.guards = some []) (hu : X.A.units + 64 < cLine) : CallR X (.builtin "repr") (fun xs H Q => ∃ (a : Addr) (d : PyData), xs = [.ref a] ∧ Dp X.K H (.ref a) d ∧ d.showable = true ∧ d.hasDict = false ∧ d.depth ≤ 60 ∧ d.shown.length ≤ sizeLine ∧ Q (.str d.shown) H) := by
  intro pins s σ H xs us Q I r h
  obtain ⟨a, d, rfl, hd, h1, h2, h3, h4, q⟩ := h
  obtain ⟨u, rfl, ru⟩ := vals1 r
  cases (show u = Value.ref a from ru)
  obtain ⟨as, rd⟩ := Dp.reads I d (.ref a) (.ref a) hd rfl
  exact repr_of_reads' rd h1 (fun z => absurd (z.symm.trans h2) (by decide)) gu (by omega) (fun b o e => e) (fun h' u tk hk => ⟨.str _, H, I.kept hk, ⟨_, rfl⟩, q⟩) h4
/-! ### xs == [] -/
theorem op_eqNil {X : Cx} (hu : X.A.units + 64 < cLine) : OpR X (compareOp .Eq) (fun x y H Q => ∃ (a b : Addr) (xs : List V), x = .ref a ∧ y = .ref b ∧ SqL X.K H a xs ∧ SqL X.K H b [] ∧ Q (.bl xs.isEmpty) H) := by
  intro pins s σ H x y v u Q I rx ry h
  obtain ⟨a, b, xs, rfl, rfl, h1, h2, q⟩ := h
  cases (show v = Value.ref a from rx)
  cases (show u = Value.ref b from ry)
  obtain ⟨is, r1, p1, _⟩ := I.list h1
  obtain ⟨js, r2, p2, _⟩ := I.list h2
  cases r2
  have hu' : X.A.units < cLine := by omega
  cases xs with
  | nil =>
    cases r1
    exact SeqAt.eq_listAt (e := fun _ => true) p1.isList p2.isList rfl hu' (fun j h1 _ => absurd h1 (Nat.not_lt_zero j)) ⟨.bl true, H, I, rfl, q⟩
  | cons x xs =>
    have hl : is.length = xs.length + 1 := r1.length.symm
    exact SeqAt.eq_list_lengthsAt p1.isList p2.isList (by simp [hl]) hu' ⟨.bl false, H, I, rfl, q⟩
/-! ### callables by name -/
structure CalG (P : Program) (w : World) (K : PySem.W.Frag) (mg : Str → Option Value) (bs : Heap) (k : Nat) (x : Str) (sp : Sp) (dvs : List V) : Prop where
  ex : ∃ (f : Addr) (fd : FuncData) (ps : List Str) (ds : List Value), FnG P w K mg bs CX0 k f fd ps sp ∧ mg x = some (.ref f) ∧ PySem.W.keepIn K (.ref f) = true ∧ Binds K fd ps ds ∧ Vals dvs ds
structure CalK (P : Program) (w : World) (K : PySem.W.Frag) (mg : Str → Option Value) (bs : Heap) (k : Nat) (x : Str) (sp : Sp) (n : Nat) (ks : List Str) (gV : List V → List V → List V) : Prop where
  ex : ∃ (f : Addr) (fd : FuncData) (ps : List Str) (g : List Value → List Value → List Value), FnOk P w K mg bs CX0 k f fd ps sp ∧ mg x = some (.ref f) ∧ PySem.W.keepIn K (.ref f) = true ∧ KBn K fd ps n ks g gV
section
variable {X : Cx} {k j n : Nat} {sp : Sp} {dvs : List V} {x : Str} {p pos : Pos} {e : Expr} {es : List Expr} {kws : List Keyword} {t tk : TA} {ks : List Str} {gV : List V → List V → List V}
theorem pe_cG (c : CalG X.prog X.w X.K X.mg X.base k x sp dvs) (gu : X.A.guards = some []) (hr : Room j X.A) (hk : k ≤ j) (hg : Gl X x) (ha : PA X (e :: es) t)
    (h1 : (x == ("__debug__" : Str)) = false := by decide) (h2 : starEach (e :: es) X.env = (false, eval e X.env) :: starEach es X.env := by rfl) (h3 : (backTo pos (starEach es X.env)).any (·.1) = false := by rfl) :
    PE X (.Call (.Name x p) (e :: es) [] pos) (tCall sp dvs E0 t) := by
  obtain ⟨f, fd, ps, ds, F, hm, kp, b, d⟩ := c.ex
  exact pe_callG F gu (hr.mono hk) hg hm kp b d pass0 ha h1 h2 h3
theorem pe_k0 (c : CalK X.prog X.w X.K X.mg X.base k x sp 0 ks gV) (hr : Room j X.A) (hk : k ≤ j) (hg : Gl X x) (hkw : PK X kws tk)
    (h1 : (backToKw pos (keywordEach kws X.env)).all (·.1.isSome) = true := by rfl) (h2 : (backToKw pos (keywordEach kws X.env)).filterMap (·.1) = ks := by rfl) (h3 : (x == ("__debug__" : Str)) = false := by decide)
    (h4 : ((backTo pos (starEach [] X.env)).any (·.1) || (backToKw pos (keywordEach kws X.env)).any (·.1.isNone)) = false := by rfl) :
    PE X (.Call (.Name x p) [] kws pos) (tCallN 0 ks.length sp gV E0 tNil tk) := by
  obtain ⟨f, fd, ps, g, F, hm, kp, b⟩ := c.ex
  exact pe_callN0 F (hr.mono hk) hg hm kp b pass0 hkw h1 h2 h3 h4
end
/-! ### the law's end, for a law whose def is so called -/
theorem end_G {P : Program} {w : World} {K : PySem.W.Frag} {mg mb : Str → Option Value} {CX : CXT} {k : Nat} {fa a : Addr} {fd : FuncData} {x : Str} {sp : Sp} {s : Shared} {vs : List Value} {ns : List Int}
    (KX : K.In s.heap) (hm : s.heap.Ns mainGlobals mg) (hb : s.heap.Ns builtinsNs mb) (hbb : ∀ y : Str, y ≠ "__name__" → mb y = bootBuiltins y) (lim : s.heap.NoLimit) (hg : s.gens = #[])
    (ha : s.heap.get? a = some { cls := .type "list", data := .seq vs.toArray }) (hi : IntsAre vs ns) (hl : ns.length ≤ sizeLine) (hr : Room k callerA)
    (F : ∀ bs : Heap, K.In bs → bs.Ns mainGlobals mg → FnG P w K mg bs CX k fa fd [x] sp) (bi : ∀ (s : Shared) (u : Value), BindsTo s fd ⟨[u], []⟩ [(x, u)])
    (hsp : ∀ H : Hp, SqL K H a (ns.map V.int) → sp [.ref a] H (fun v _ => v = .bl true) fun _ _ _ => False) (hCX : ∀ H e s', CX [] H s (fun _ _ _ => False) e s' → False) :
    codeAny (model P w) callerA (.call (.ref fa) ⟨[.ref a], []⟩) (fun r s' => r = .ok (.ret (.bool true)) ∧ OldK s.heap s'.heap ∧ s'.os = s.os ∧ AllBare s'.gens) s := by
  have main : ∀ H : Hp, SqL K H a (ns.map V.int) → HOk P w H s.heap → (∀ b u, H b = some u → b = a ∧ K.lookup a = none ∧ ∃ o xs, u = .frz o (.lst xs)) →
      codeAny (model P w) callerA (.call (.ref fa) ⟨[.ref a], []⟩) (fun r s' => r = .ok (.ret (.bool true)) ∧ OldK s.heap s'.heap ∧ s'.os = s.os ∧ AllBare s'.gens) s := by
    intro H hS hok hA
    have notD : ∀ {b : Addr} {o : Obj} {es : Array DictEntry} {n : Nat}, s.heap.get? b = some o → o.data = .dict es n → H b = none := by
      intro b o es n h1 h2
      cases q : H b with
      | none => rfl
      | some u =>
        obtain ⟨rfl, _, _⟩ := hA b u q
        rw [ha] at h1
        injection h1 with h1
        rw [← h1] at h2
        exact nomatch h2
    have nsB : ∀ {b : Addr} {m : Str → Option Value}, s.heap.Ns b m → (hidT s.heap H).Ns b m := by
      rintro b m ⟨o, es, n, h1, h2, h3⟩
      exact ⟨o, es, n, hidT_get h1 (notD h1 h2), h2, h3⟩
    have kB : K.In (hidT s.heap H) := by
      intro b o h1
      refine hidT_get (KX b o h1) ?_
      cases q : H b with
      | none => rfl
      | some u =>
        obtain ⟨rfl, h2, _⟩ := hA b u q
        rw [h2] at h1
        exact nomatch h1
    obtain ⟨mc, l1, l2⟩ := lim
    have M : Mod K mg (hidT s.heap H) := ⟨kB, nsB hm, ⟨mb, nsB hb, hbb⟩, mc, nsB l1, l2⟩
    have e0 : Env0 P w K mg (hidT s.heap H) callerA [] s H := ⟨rfl, M, fun b o e => of_hidT e, Nat.le_of_eq (hidT_size _ _), trivial, fun b hz => (List.not_mem_nil (show b ∈ ([] : List Addr) from hz)).elim, hok, .of_eq hg⟩
    refine codeAny_mono ((F _ kB (nsB hm)).go callerA [] s H ⟨[.ref a], []⟩ [.ref a] [.ref a] _ _ rfl hr e0 (bi s (.ref a)) (.cons rfl .nil) (hsp H hS)) fun r s' hz => ?_
    cases r with
    | error e => exact (hCX H e s' hz).elim
    | ok fl => cases fl with
      | next => exact hz.elim
      | brk => exact hz.elim
      | cont => exact hz.elim
      | ret u =>
        obtain ⟨v, H', o1, b1, un, ok', rv, rfl⟩ := hz
        cases (show u = Value.bool true from rv)
        refine ⟨rfl, OldK.of_keep fun b o e => ?_, o1, b1⟩
        cases q : H b with
        | none => exact un.keep b o e q (fun z => List.not_mem_nil (show b ∈ ([] : List Addr) from z)) (fun z => List.not_mem_nil (show b ∈ ([] : List Addr) from z))
        | some y =>
          obtain ⟨_, _, ob, xs, rfl⟩ := hA b y q
          have e1 := (hok b _ q).1
          have e2 := (ok' b _ (un.frzs b ob _ q)).1
          exact e2.trans (e1.symm.trans e)
  have rv := vals_ints hi
  cases hk : K.lookup a with
  | some o =>
    have e := KX a o hk
    rw [ha] at e
    injection e with e
    subst e
    exact main (fun _ => none) (.inr ⟨_, vs.toArray, _, hk, rfl, rfl, rfl, by rw [List.size_toArray, hi.length]; exact hl, by simpa using rv⟩) (fun b u z => nomatch (show (none : Option HO) = some u from z)) fun b u z => nomatch (show (none : Option HO) = some u from z)
  | none =>
    let u : HO := .frz { cls := .type "list", data := .seq vs.toArray } (.lst (ns.map V.int))
    have one : ∀ b y, (if b = a then some u else none) = some y → b = a ∧ y = u := by
      intro b y z
      by_cases q : b = a
      · rw [if_pos q] at z
        exact ⟨q, (Option.some.inj z).symm⟩
      · rw [if_neg q] at z
        exact nomatch z
    refine main (fun b => if b = a then some u else none) (.inl (.inr ⟨_, if_pos rfl⟩)) (fun b y z => ?_) fun b y z => ?_
    · obtain ⟨rfl, rfl⟩ := one b y z
      exact ⟨ha, by rw [List.length_map]; exact hl, vs, _, rv, ha⟩
    · obtain ⟨rfl, rfl⟩ := one b y z
      exact ⟨rfl, hk, _, _, rfl⟩
theorem walk_G {l : PySem.W.OpenLaw} {n k : Nat} {q : Program} {lo : List Str} {XP : (Str → Option Value) → Heap → Prop} {YP : World → Heap → Prop} {d : DefRec} {CX : World → CXT} {x : Str}
    (hn : l.most = some n) (hz : n ≤ sizeLine) (hd : d.params.defaults = []) (hr : Room k callerA)
    (F : ∀ (w : World) (mg : Str → Option Value) (fa : Addr) (h : Heap), YP w h → h.Ns mainGlobals mg → mg d.name = some (.ref fa) →
      ∃ (K : PySem.W.Frag) (fd : FuncData) (sp : Sp), K.In h ∧ (∀ (s : Shared) (u : Value), BindsTo s fd ⟨[u], []⟩ [(x, u)]) ∧
        (∀ (H : Hp) (a : Addr) (ns : List Int), ns.length ≤ n → SqL K H a (ns.map V.int) → sp [.ref a] H (fun v _ => v = .bl true) fun _ _ _ => False) ∧ ∀ bs : Heap, K.In bs → bs.Ns mainGlobals mg → FnG l.prog w K mg bs (CX w) k fa fd [x] sp)
    (hCX : ∀ (w : World) (H : Hp) (s : Shared) (e : Value) (s' : Shared), CX w [] H s (fun _ _ _ => False) e s' → False) :
    PySem.W.WalkO q lo XP YP l.row.toRowW d [] (fun f vs => PySem.call f vs) := by
  refine Att.attach_call hn hd fun w s₀ s₁ mg mb fa o pm cd doc a vs ns Gr Y ho hdt hcd hmg hobj hints hlen hg => ?_
  obtain ⟨K, fd, sp, KX, b1, b2, b3⟩ := F w mg fa _ Y Gr.T.g hmg
  exact end_G KX Gr.T.g Gr.T.b Gr.T.builtins Gr.T.nolimit hg hobj hints (Nat.le_trans hlen hz) hr b3 b1 (fun H => b2 H a ns hlen) fun H e s' => hCX w H s₁ e s'
end G

namespace G
open PySem PySem.Spec PyProof.Rows L2
/-! ### small things -/
theorem lenOf {vs : List V} {ps : List Str} {φ : Prop} (h : vs.length = ps.length ∧ φ) : vs.length = ps.length := h.1
theorem Same.rfl' {H : Hp} : Same H H := fun _ _ e => e
theorem Same.tr {H H1 H2 : Hp} (a : Same H H1) (b : Same H1 H2) : Same H H2 := fun x o e => b x o (a x o e)
theorem Same.new {H : Hp} {p : Addr} {o : HO} (h : H p = none) : Same H (upd H p o) := fun a u e => by
  rw [upd_ne (ne_of_none e h)]
  exact e
theorem Same.new' {H H1 : Hp} {p : Addr} {o : HO} (s : Same H H1) (h : H1 p = none) : Same H (upd H1 p o) := Same.tr s (Same.new h)
/-- what H does not know may change -/
theorem Same.chg {H H1 : Hp} {p : Addr} {o : HO} (s : Same H H1) (h : H p = none) : Same H (upd H1 p o) := fun a u e => by
  rw [upd_ne (ne_of_none e h)]
  exact s a u e
theorem Same.un {H H1 : Hp} (s : Same H H1) {p : Addr} (h : H1 p = none) : H p = none := by
  cases e : H p with
  | none => rfl
  | some o => rw [s p o e] at h; exact nomatch h
theorem lst_sq {K : PySem.W.Frag} {H : Hp} {a : Addr} {xs : List V} (h : H a = some (.lst xs)) : SqL K H a xs := Or.inl (Or.inl h)
theorem tup_sq {K : PySem.W.Frag} {H : Hp} {a : Addr} {xs : List V} (h : H a = some (.tup xs)) : SqT K H a xs := Or.inl (Or.inl h)
theorem Same.sqL {K : PySem.W.Frag} {H H' : Hp} {a : Addr} {xs : List V} (e : Same H H') (h : SqL K H a xs) : SqL K H' a xs := by
  rcases h with (h | ⟨o, h⟩) | h
  · exact Or.inl (Or.inl (e _ _ h))
  · exact Or.inl (Or.inr ⟨o, e _ _ h⟩)
  · exact Or.inr h
theorem Same.sqT {K : PySem.W.Frag} {H H' : Hp} {a : Addr} {xs : List V} (e : Same H H') (h : SqT K H a xs) : SqT K H' a xs := by
  rcases h with (h | ⟨o, h⟩) | h
  · exact Or.inl (Or.inl (e _ _ h))
  · exact Or.inl (Or.inr ⟨o, e _ _ h⟩)
  · exact Or.inr h
/-! ### what isinstance is asked of -/
def isI : V → Bool
  | .int _ => true
  | .bl _ => true
  | _ => false
def isB : V → Bool
  | .bl _ => true
  | _ => false
def isS : V → Bool
  | .str _ => true
  | _ => false
structure Ask (K : PySem.W.Frag) (H : Hp) (v : V) : Prop where
  ex : ∃ t, TyX K H v t ∧ PySem.W.kitOne K t (.type "int") = some (isI v) ∧ PySem.W.kitOne K t (.type "bool") = some (isB v) ∧ PySem.W.kitOne K t (.type "str") = some (isS v)
theorem ty_same {K : PySem.W.Frag} {H H' : Hp} {v : V} {t : Value} (s : Same H H') (h : TyX K H v t) : TyX K H' v t := by
  cases h with
  | base b =>
    refine .base ?_
    cases b with
    | non => exact .non
    | bl x => exact .bl x
    | int i => exact .int i
    | str x => exact .str x
    | flt x => exact .flt x
    | lst e => exact .lst (s _ _ e)
    | frz e => exact .frz (s _ _ e)
    | tup e => exact .tup (s _ _ e)
    | dK e => exact .dK (s _ _ e)
    | dT e => exact .dT (s _ _ e)
    | ins e a b c d f => exact .ins (s _ _ e) a b c d f
  | byt b => exact .byt b
  | set e => exact .set (s _ _ e)
  | kList e c => exact .kList e c
  | kTuple e c => exact .kTuple e c
  | kDict e c => exact .kDict e c
  | fTuple e => exact .fTuple (s _ _ e)
  | fDict e => exact .fDict (s _ _ e)
theorem Ask.same {K : PySem.W.Frag} {H H' : Hp} {v : V} (s : Same H H') (h : Ask K H v) : Ask K H' v := by
  obtain ⟨t, a, b⟩ := h.ex
  exact ⟨t, ty_same s a, b⟩
theorem Ask.int {K : PySem.W.Frag} {H : Hp} (i : Int) : Ask K H (.int i) := ⟨_, .base (.int i), kit_ty (r := true) (by decide +kernel), kit_ty (r := false) (by decide +kernel), kit_ty (r := false) (by decide +kernel)⟩
theorem Ask.str {K : PySem.W.Frag} {H : Hp} (x : Str) : Ask K H (.str x) := ⟨_, .base (.str x), kit_ty (r := false) (by decide +kernel), kit_ty (r := false) (by decide +kernel), kit_ty (r := true) (by decide +kernel)⟩
theorem Ask.bl {K : PySem.W.Frag} {H : Hp} (x : Bool) : Ask K H (.bl x) := ⟨_, .base (.bl x), kit_ty (r := true) (by decide +kernel), kit_ty (r := true) (by decide +kernel), kit_ty (r := false) (by decide +kernel)⟩
theorem Ask.non {K : PySem.W.Frag} {H : Hp} : Ask K H .non := ⟨_, .base .non, kit_ty (r := false) (by decide +kernel), kit_ty (r := false) (by decide +kernel), kit_ty (r := false) (by decide +kernel)⟩
theorem Ask.lst {K : PySem.W.Frag} {H : Hp} {a : Addr} {xs : List V} (h : H a = some (.lst xs)) : Ask K H (.ref a) := ⟨_, .base (.lst h), kit_ty (r := false) (by decide +kernel), kit_ty (r := false) (by decide +kernel), kit_ty (r := false) (by decide +kernel)⟩
theorem Ask.tup {K : PySem.W.Frag} {H : Hp} {a : Addr} {xs : List V} (h : H a = some (.tup xs)) : Ask K H (.ref a) := ⟨_, .base (.tup h), kit_ty (r := false) (by decide +kernel), kit_ty (r := false) (by decide +kernel), kit_ty (r := false) (by decide +kernel)⟩
theorem Ask.dct {K : PySem.W.Frag} {H : Hp} {a : Addr} {xs : List (Key × V)} (h : H a = some (.dK xs)) : Ask K H (.ref a) := ⟨_, .base (.dK h), kit_ty (r := false) (by decide +kernel), kit_ty (r := false) (by decide +kernel), kit_ty (r := false) (by decide +kernel)⟩
/-- an instance's class, as isinstance asks it -/
def insB (K : PySem.W.Frag) (C : Addr) : Bool :=
  decide (PySem.W.findIn K (.ref C) "__class__" = some (some (.builtin "object.__class__"))) && (decide (PySem.W.specialIn K (.builtin "object.__class__") "__get__" = some (some (.builtin "getset_descriptor.__get__"))) &&
    (decide (PySem.W.takesIn K (.builtin "object.__class__") = some true) && (decide (PySem.W.mroIn K C (.type "object") = some true) &&
      (decide (PySem.W.kitOne K (.ref C) (.type "int") = some false) && (decide (PySem.W.kitOne K (.ref C) (.type "bool") = some false) && decide (PySem.W.kitOne K (.ref C) (.type "str") = some false))))))
theorem Ask.ins {K : PySem.W.Frag} {H : Hp} {a C dx : Addr} {fs : List (Str × V)} (cl : Cls K C) (c : insB K C = true) (h : H a = some (.ins C dx fs)) : Ask K H (.ref a) := by
  unfold insB at c
  simp only [Bool.and_eq_true, decide_eq_true_eq] at c
  obtain ⟨c1, c2, c3, c4, c5, c6, c7⟩ := c
  exact ⟨_, .base (.ins h cl c1 c2 c3 c4), c5, c6, c7⟩
/-! ### comprehensions whose element leaves what is known as it is -/
theorem lc_map {J : It} {n : Nat} {Gd : Hp → Prop} {Y : Nat → Hp → V → Hp → Prop} (wk : Walk J n Gd Y) (it f : Nat → V) (hY : ∀ i H x H', i < n → Y i H x H' → H' = H ∧ x = it i) {te : TE} {j : Nat} {vs : List Nat} {σ : L2.St} {H : Hp} {D : Addr} {Qd : Hp → Prop}
    (hn : n ≤ 100000) (hD : H D = none) (hG : ∀ H', Same H H' → Gd H') (hw : ∀ x, wipe ((wipe σ vs).set j (some x)) vs = wipe σ vs)
    (he : ∀ i H1, i < n → Same H H1 → ∀ Q : VK, (∀ H2, Same H1 H2 → Q (f i) H2) → te ((wipe σ vs).set j (some (it i))) H1 Q) (hd : ∀ H', Same H H' → H' D = some (.lst ((List.range n).map f)) → Qd H') :
    ∃ W : Nat → Nat → Hp → Prop, (∃ m, W 0 m (upd H D (.lst []))) ∧ ∀ i m H, W i m H →
      (J.stop i H ∧ Qd H) ∨ (J.go i H ∧ ∃ Nx : Hp → Prop, (∀ H', Nx H' → ∃ m', m' < m ∧ W (i + 1) m' H') ∧ ∀ x H', J.yld i H x H' → gName j x (wipe σ vs) H' fun σ2 H2 => wipe σ2 vs = wipe σ vs ∧ tYes σ2 H2 fun b H3 =>
        if b = true then te σ2 H3 fun y H4 => ∃ acc, H4 D = some (.lst acc) ∧ acc.length < sizeLine ∧ Nx (upd H4 D (.lst (acc ++ [y]))) else Nx H3) := by
  refine lc_it (tt := tYes) wk (fun i H' => Same H H' ∧ H' D = some (.lst ((List.range i).map f))) ⟨Same.new hD, upd_same⟩ (fun i H' _ p => hG H' p.1) ?_ (fun H' p => hd H' p.1 p.2)
  intro i x H1 H2 hi p y
  obtain ⟨rfl, rfl⟩ := hY i H1 x H2 hi y
  refine ⟨hw _, ?_⟩
  unfold tYes
  refine iteT (he i H2 hi p.1 _ fun H3 s3 => ?_)
  refine ⟨_, s3 _ _ p.2, ?_, Same.chg (Same.tr p.1 s3) hD, ?_⟩
  · rw [List.length_map, List.length_range]
    exact Nat.lt_of_lt_of_le (Nat.lt_of_lt_of_le hi hn) (by decide)
  · rw [upd_same, List.range_succ, List.map_append] <;> rfl
theorem range_getD {α : Type} (a : Array α) (d : α) : (List.range a.size).map (fun i => a.getD i d) = a.toList := by
  refine List.ext_getElem (by simp) fun i h1 h2 => ?_
  have h3 : i < a.size := by simpa using h2
  simp [Array.getD_eq_getD_getElem?, h3]
theorem range_all {α : Type} (a : Array α) (d : α) (f : α → Bool) : ((List.range a.size).map fun i => f (a.getD i d)).all id = a.toList.all f := by
  rw [← range_getD a d, List.all_map, List.all_map] <;> rfl
/-! ### texts sign by sign, items at a drawn place -/
def one (c : Nat) : Str := ⟨#[c]⟩
theorem joinL_nil : ∀ xs : List (List Nat), TL.joinL [] xs = xs.flatten
  | [] => rfl
  | [x] => by simp [TL.joinL]
  | x :: y :: r => by
    have ih := joinL_nil (y :: r)
    simp only [TL.joinL, List.flatten_cons] at ih ⊢
    rw [ih] <;> simp
theorem join_ones (cs : List Nat) : Txt.join ("" : Str) (cs.map one) = ⟨cs.toArray⟩ := by
  rw [TL.join_eq]
  refine TL.ext_tl ?_
  rw [TL.tl_join, show TL.tl ("" : Str) = [] from rfl, joinL_nil, List.map_map]
  have e : List.map (TL.tl ∘ one) cs = cs.map fun c => [c] := rfl
  rw [e]
  show (cs.map fun c => [c]).flatten = cs
  induction cs with
  | nil => rfl
  | cons c r ih => rw [List.map_cons, List.flatten_cons, ih rfl] <;> rfl
theorem ones_len (cs : List Nat) : ((cs.map one).map (·.length)).sum = cs.length := by
  induction cs with
  | nil => rfl
  | cons c r ih => rw [List.map_cons, List.map_cons, List.sum_cons, ih, List.length_cons, show (one c).length = 1 from rfl] <;> omega
theorem atI_mem {α : Type} {xs : List α} {i : Int} (h0 : 0 ≤ i) (h1 : i < xs.length) : ∃ v, v ∈ xs ∧ atI xs i = some v := by
  obtain ⟨j, rfl⟩ := Int.eq_ofNat_of_zero_le h0
  have h2 : j < xs.length := by omega
  exact ⟨xs[j], List.getElem_mem h2, atI_nat (List.getElem?_eq_getElem h2)⟩
theorem str_empty {z : Str} (h : z.length = 0) : z = "" := by
  obtain ⟨a⟩ := z
  have e : a = #[] := Array.eq_empty_of_size_eq_zero h
  rw [e] <;> rfl
theorem str_app (a b : Str) : (a ++ b).length = a.length + b.length := by
  show (a.cps ++ b.cps).size = a.cps.size + b.cps.size
  exact Array.size_append
/-- a new instance, made: what stood before stands -/
theorem made_same {H H' : Hp} {x dx C : Addr} (nx : H x = none) (nd : H dx = none) (k : ∀ a o, (upd (upd H dx (.own x)) x (.ins C dx [])) a = some o → a ≠ x → H' a = some o) : Same H H' := fun a o e => by
  have n1 : a ≠ x := ne_of_none e nx
  have n2 : a ≠ dx := ne_of_none e nd
  exact k a o (by rw [upd_ne n1, upd_ne n2]; exact e) n1
/-! ### comprehensions with a test -/
theorem lc_filt {J : It} {n : Nat} {Gd : Hp → Prop} {Y : Nat → Hp → V → Hp → Prop} (wk : Walk J n Gd Y) (it f : Nat → V) (b : Nat → Bool) (hY : ∀ i H x H', i < n → Y i H x H' → H' = H ∧ x = it i) {tt : TT} {te : TE} {j : Nat} {vs : List Nat} {σ : L2.St} {H : Hp} {D : Addr} {Qd : Hp → Prop}
    (hn : n ≤ 100000) (hD : H D = none) (hG : ∀ H', Same H H' → Gd H') (hw : ∀ x, wipe ((wipe σ vs).set j (some x)) vs = wipe σ vs)
    (ht : ∀ i H1, i < n → Same H H1 → ∀ Q : Bool → Hp → Prop, (∀ H2, Same H1 H2 → Q (b i) H2) → tt ((wipe σ vs).set j (some (it i))) H1 Q)
    (he : ∀ i H1, i < n → b i = true → Same H H1 → ∀ Q : VK, (∀ H2, Same H1 H2 → Q (f i) H2) → te ((wipe σ vs).set j (some (it i))) H1 Q) (hd : ∀ H', Same H H' → H' D = some (.lst (((List.range n).filter b).map f)) → Qd H') :
    ∃ W : Nat → Nat → Hp → Prop, (∃ m, W 0 m (upd H D (.lst []))) ∧ ∀ i m H, W i m H →
      (J.stop i H ∧ Qd H) ∨ (J.go i H ∧ ∃ Nx : Hp → Prop, (∀ H', Nx H' → ∃ m', m' < m ∧ W (i + 1) m' H') ∧ ∀ x H', J.yld i H x H' → gName j x (wipe σ vs) H' fun σ2 H2 => wipe σ2 vs = wipe σ vs ∧ tt σ2 H2 fun b H3 =>
        if b = true then te σ2 H3 fun y H4 => ∃ acc, H4 D = some (.lst acc) ∧ acc.length < sizeLine ∧ Nx (upd H4 D (.lst (acc ++ [y]))) else Nx H3) := by
  refine lc_it (tt := tt) wk (fun i H' => Same H H' ∧ H' D = some (.lst (((List.range i).filter b).map f))) ⟨Same.new hD, upd_same⟩ (fun i H' _ p => hG H' p.1) ?_ (fun H' p => hd H' p.1 p.2)
  intro i x H1 H2 hi p y
  obtain ⟨rfl, rfl⟩ := hY i H1 x H2 hi y
  refine ⟨hw _, ht i H2 hi p.1 _ fun H3 s3 => ?_⟩
  have e1 : (List.range (i + 1)).filter b = (List.range i).filter b ++ [i].filter b := by rw [List.range_succ, List.filter_append]
  cases hb : b i with
  | false =>
    refine iteF ⟨Same.tr p.1 s3, ?_⟩
    rw [e1, List.filter_cons_of_neg (by rw [hb]; decide), List.filter_nil, List.append_nil]
    exact s3 _ _ p.2
  | true =>
    refine iteT (he i H3 hi hb (Same.tr p.1 s3) _ fun H4 s4 => ?_)
    refine ⟨_, s4 _ _ (s3 _ _ p.2), ?_, Same.chg (Same.tr (Same.tr p.1 s3) s4) hD, ?_⟩
    · rw [List.length_map]
      have l1 := List.length_filter_le b (List.range i)
      rw [List.length_range] at l1
      exact Nat.lt_of_le_of_lt l1 (Nat.lt_of_lt_of_le (Nat.lt_of_lt_of_le hi hn) (by decide))
    · rw [upd_same, e1, List.filter_cons_of_pos hb, List.filter_nil, List.map_append] <;> rfl
end G

namespace G
open PySem PySem.Spec PyProof.Rows L2
def top (i : Nat) : Stmt := PySem.Challenge.pw_mapsizes_k02_integers_names_marks.main.body.getD i (.Pass ⟨0, 0, 0, 0⟩)
abbrev s_is_integer : Stmt := top 12
abbrev s_is_name : Stmt := top 13
abbrev s_is_mark : Stmt := top 14
abbrev s_least_shift : Stmt := top 15
abbrev s_Place___init__ : Stmt := inClass (top 18) 0
abbrev s__law_cell : Stmt := top 20
abbrev s__law_box : Stmt := top 21
abbrev s__law_take : Stmt := top 22
abbrev s__law_word : Stmt := top 23
abbrev s__law_number : Stmt := top 24
abbrev s__law_any : Stmt := top 25
abbrev s__law_name_due : Stmt := top 26
abbrev s__law_right : Stmt := top 27
abbrev s_law : Stmt := top 28
def d_is_integer : He.DefD := ⟨("is_integer", none), "is_integer", "is_integer", defArgs s_is_integer, defBody s_is_integer, defScope s_is_integer, [], []⟩
def d_is_name : He.DefD := ⟨("is_name", none), "is_name", "is_name", defArgs s_is_name, defBody s_is_name, defScope s_is_name, [], []⟩
def d_is_mark : He.DefD := ⟨("is_mark", none), "is_mark", "is_mark", defArgs s_is_mark, defBody s_is_mark, defScope s_is_mark, [], []⟩
def d_least_shift : He.DefD := ⟨("least_shift", none), "least_shift", "least_shift", defArgs s_least_shift, defBody s_least_shift, defScope s_least_shift, [], []⟩
def d_Place___init__ : He.DefD := ⟨("Place", some "__init__"), "__init__", "Place.__init__", defArgs s_Place___init__, defBody s_Place___init__, defScope s_Place___init__, [.str ""], [("shift", .int 0)]⟩
def d__law_cell : He.DefD := ⟨("_law_cell", none), "_law_cell", "_law_cell", defArgs s__law_cell, defBody s__law_cell, defScope s__law_cell, [], []⟩
def d__law_box : He.DefD := ⟨("_law_box", none), "_law_box", "_law_box", defArgs s__law_box, defBody s__law_box, defScope s__law_box, [], []⟩
def d__law_take : He.DefD := ⟨("_law_take", none), "_law_take", "_law_take", defArgs s__law_take, defBody s__law_take, defScope s__law_take, [], []⟩
def d__law_word : He.DefD := ⟨("_law_word", none), "_law_word", "_law_word", defArgs s__law_word, defBody s__law_word, defScope s__law_word, [], []⟩
def d__law_number : He.DefD := ⟨("_law_number", none), "_law_number", "_law_number", defArgs s__law_number, defBody s__law_number, defScope s__law_number, [], []⟩
def d__law_any : He.DefD := ⟨("_law_any", none), "_law_any", "_law_any", defArgs s__law_any, defBody s__law_any, defScope s__law_any, [], []⟩
def d__law_name_due : He.DefD := ⟨("_law_name_due", none), "_law_name_due", "_law_name_due", defArgs s__law_name_due, defBody s__law_name_due, defScope s__law_name_due, [], []⟩
def d__law_right : He.DefD := ⟨("_law_right", none), "_law_right", "_law_right", defArgs s__law_right, defBody s__law_right, defScope s__law_right, [], []⟩
def d_law : He.DefD := ⟨("law", none), "law", "law", defArgs s_law, defBody s_law, defScope s_law, [], []⟩
def fn : List He.DefD := [d_is_integer, d_is_name, d_is_mark, d_least_shift, d_Place___init__, d__law_cell, d__law_box, d__law_take, d__law_word, d__law_number, d__law_any, d__law_name_due, d__law_right, d_law]
def fa : List He.Fa := [.glo "is_integer", .glo "is_name", .glo "is_mark", .glo "least_shift", .glo "_law_cell", .glo "_law_box", .glo "_law_take", .glo "_law_word", .glo "_law_number", .glo "_law_any", .glo "_law_name_due", .glo "_law_right", .glo "law", .glo "Place", .glo "RESERVED", .free "isinstance", .free "int", .free "bool", .free "str", .free "len", .free "all", .free "max", .free "min", .free "range", .free "repr", .int "MOST_LETTERS" 6, .int "MOST_SHIFT" 3, .str "LETTERS" "abcdefghijklmnopqrstuvwxyz", .cls "Place", .noat "Place" "own_base", .noat "Place" "own_shift", .mkr "Place"]
def ex (K : PySem.W.Frag) : Bool := He.tupB K "RESERVED" [.str "old", .str "zero", .str "end", .str "fails", .str "more", .str "done", .str "none"] && insB K (He.ga K "Place")
structure Tx (K : PySem.W.Frag) (mg : Str → Option Value) : Prop where
  g_is_integer : mg "is_integer" = some (.ref (He.ga K "is_integer"))
  g_is_name : mg "is_name" = some (.ref (He.ga K "is_name"))
  g_is_mark : mg "is_mark" = some (.ref (He.ga K "is_mark"))
  g_least_shift : mg "least_shift" = some (.ref (He.ga K "least_shift"))
  g__law_cell : mg "_law_cell" = some (.ref (He.ga K "_law_cell"))
  g__law_box : mg "_law_box" = some (.ref (He.ga K "_law_box"))
  g__law_take : mg "_law_take" = some (.ref (He.ga K "_law_take"))
  g__law_word : mg "_law_word" = some (.ref (He.ga K "_law_word"))
  g__law_number : mg "_law_number" = some (.ref (He.ga K "_law_number"))
  g__law_any : mg "_law_any" = some (.ref (He.ga K "_law_any"))
  g__law_name_due : mg "_law_name_due" = some (.ref (He.ga K "_law_name_due"))
  g__law_right : mg "_law_right" = some (.ref (He.ga K "_law_right"))
  g_law : mg "law" = some (.ref (He.ga K "law"))
  g_Place : mg "Place" = some (.ref (He.ga K "Place"))
  g_RESERVED : mg "RESERVED" = some (.ref (He.ga K "RESERVED"))
  f_isinstance : mg "isinstance" = none
  f_int : mg "int" = none
  f_bool : mg "bool" = none
  f_str : mg "str" = none
  f_len : mg "len" = none
  f_all : mg "all" = none
  f_max : mg "max" = none
  f_min : mg "min" = none
  f_range : mg "range" = none
  f_repr : mg "repr" = none
  c_MOST_LETTERS : ∃ u, mg "MOST_LETTERS" = some u ∧ RelV (.int 6) u
  c_MOST_SHIFT : ∃ u, mg "MOST_SHIFT" = some u ∧ RelV (.int 3) u
  c_LETTERS : ∃ u, mg "LETTERS" = some u ∧ RelV (.str "abcdefghijklmnopqrstuvwxyz") u
  c_RESERVED : ∃ u, mg "RESERVED" = some u ∧ RelV (.ref (He.ga K "RESERVED")) u
  d_is_integer : ∃ fd, FunD K d_is_integer.name d_is_integer.qual d_is_integer.params d_is_integer.body d_is_integer.scope (d_is_integer.dvs K) (d_is_integer.kws K) (He.fAd K d_is_integer.at_) fd
  d_is_name : ∃ fd, FunD K d_is_name.name d_is_name.qual d_is_name.params d_is_name.body d_is_name.scope (d_is_name.dvs K) (d_is_name.kws K) (He.fAd K d_is_name.at_) fd
  d_is_mark : ∃ fd, FunD K d_is_mark.name d_is_mark.qual d_is_mark.params d_is_mark.body d_is_mark.scope (d_is_mark.dvs K) (d_is_mark.kws K) (He.fAd K d_is_mark.at_) fd
  d_least_shift : ∃ fd, FunD K d_least_shift.name d_least_shift.qual d_least_shift.params d_least_shift.body d_least_shift.scope (d_least_shift.dvs K) (d_least_shift.kws K) (He.fAd K d_least_shift.at_) fd
  d_Place___init__ : ∃ fd, FunD K d_Place___init__.name d_Place___init__.qual d_Place___init__.params d_Place___init__.body d_Place___init__.scope (d_Place___init__.dvs K) (d_Place___init__.kws K) (He.fAd K d_Place___init__.at_) fd
  d__law_cell : ∃ fd, FunD K d__law_cell.name d__law_cell.qual d__law_cell.params d__law_cell.body d__law_cell.scope (d__law_cell.dvs K) (d__law_cell.kws K) (He.fAd K d__law_cell.at_) fd
  d__law_box : ∃ fd, FunD K d__law_box.name d__law_box.qual d__law_box.params d__law_box.body d__law_box.scope (d__law_box.dvs K) (d__law_box.kws K) (He.fAd K d__law_box.at_) fd
  d__law_take : ∃ fd, FunD K d__law_take.name d__law_take.qual d__law_take.params d__law_take.body d__law_take.scope (d__law_take.dvs K) (d__law_take.kws K) (He.fAd K d__law_take.at_) fd
  d__law_word : ∃ fd, FunD K d__law_word.name d__law_word.qual d__law_word.params d__law_word.body d__law_word.scope (d__law_word.dvs K) (d__law_word.kws K) (He.fAd K d__law_word.at_) fd
  d__law_number : ∃ fd, FunD K d__law_number.name d__law_number.qual d__law_number.params d__law_number.body d__law_number.scope (d__law_number.dvs K) (d__law_number.kws K) (He.fAd K d__law_number.at_) fd
  d__law_any : ∃ fd, FunD K d__law_any.name d__law_any.qual d__law_any.params d__law_any.body d__law_any.scope (d__law_any.dvs K) (d__law_any.kws K) (He.fAd K d__law_any.at_) fd
  d__law_name_due : ∃ fd, FunD K d__law_name_due.name d__law_name_due.qual d__law_name_due.params d__law_name_due.body d__law_name_due.scope (d__law_name_due.dvs K) (d__law_name_due.kws K) (He.fAd K d__law_name_due.at_) fd
  d__law_right : ∃ fd, FunD K d__law_right.name d__law_right.qual d__law_right.params d__law_right.body d__law_right.scope (d__law_right.dvs K) (d__law_right.kws K) (He.fAd K d__law_right.at_) fd
  d_law : ∃ fd, FunD K d_law.name d_law.qual d_law.params d_law.body d_law.scope (d_law.dvs K) (d_law.kws K) (He.fAd K d_law.at_) fd
  t_RES : ∀ H : Hp, SqT K H (He.ga K "RESERVED") [V.str "old", V.str "zero", V.str "end", V.str "fails", V.str "more", V.str "done", V.str "none"]
  i_Place : insB K (He.ga K "Place") = true
  cl_Place : Cls K (He.ga K "Place")
  nb_Place : NoAttr K (He.ga K "Place") "own_base"
  ns_Place : NoAttr K (He.ga K "Place") "own_shift"
  mk_Place : Mk K (He.ga K "Place") (He.ma K (He.ga K "Place") "__init__")
end G
namespace G
open PySem PySem.Spec PyProof.Rows L2
/-! ### what the defs promise -/
def inR : V → Int → Int → Bool
  | .int i, lo, hi => decide (lo ≤ i) && decide (i ≤ hi)
  | _, _, _ => false
theorem inR_int (i lo hi : Int) : inR (.int i) lo hi = (decide (lo ≤ i) && decide (i ≤ hi)) := rfl
def sp_is_integer (K : PySem.W.Frag) : Sp := fun vs H Q _ => vs.length = 3 ∧ ∃ (v : V) (lo hi : Int), vs = [v, .int lo, .int hi] ∧ Ask K H v ∧ Q (.bl (inR v lo hi)) H
end G
namespace G
open PySem PySem.Spec PyProof.Rows L2
def ABC : Str := "abcdefghijklmnopqrstuvwxyz"
/-- the name of the document: one to six letters -/
def nameS (x : Str) : Bool := (decide (1 ≤ (x.length : Int)) && decide ((x.length : Int) ≤ 6)) && x.cps.toList.all fun c => decide (c ∈ ABC.cps.toList)
theorem nameS_len {x : Str} (h : nameS x = true) : x.length ≤ 6 := by
  unfold nameS at h
  simp only [Bool.and_eq_true, decide_eq_true_eq] at h
  omega
def nameV : V → Bool
  | .str x => nameS x
  | _ => false
/-- a value that the defs are asked of: its kind is known, a text is not too long -/
def Okv (K : PySem.W.Frag) (H : Hp) (v : V) : Prop := Ask K H v ∧ ∀ x, v = .str x → x.length ≤ 100000
theorem Okv.same {K : PySem.W.Frag} {H H' : Hp} {v : V} (s : Same H H') (h : Okv K H v) : Okv K H' v := ⟨h.1.same s, h.2⟩
def sp_is_name (K : PySem.W.Frag) : Sp := fun vs H Q _ => vs.length = 1 ∧ ∃ v, vs = [v] ∧ Okv K H v ∧ ∀ H', Same H H' → Q (.bl (nameV v)) H'
end G
namespace G
open PySem PySem.Spec PyProof.Rows L2
def RESV : List V := [.str "old", .str "zero", .str "end", .str "fails", .str "more", .str "done", .str "none"]
def markV (v : V) : Bool := nameV v && !inV v RESV
def sp_is_mark (K : PySem.W.Frag) : Sp := fun vs H Q _ => vs.length = 1 ∧ ∃ v, vs = [v] ∧ Okv K H v ∧ ∀ H', Same H H' → Q (.bl (markV v)) H'
end G
namespace G
open PySem PySem.Spec PyProof.Rows L2
def leastS (x : Str) : Int := if x = "" then 0 else -3
def sp_least_shift : Sp := fun vs H Q _ => vs.length = 1 ∧ ∃ x : Str, vs = [.str x] ∧ Q (.int (leastS x)) H
/-- a place's fields -/
def pfs (b : Str) (i : Int) : List (Str × V) := putF "own_shift" (.int i) (putF "own_base" (.str b) [])
def okP (b : Str) (i : Int) : Prop := (b = "" ∨ nameS b = true) ∧ leastS b ≤ i ∧ i ≤ 3
def sp_init (K : PySem.W.Frag) : Sp := fun vs H Q _ => vs.length = 3 ∧ ∃ (x dx : Addr) (b : Str) (i : Int), vs = [.ref x, .str b, .int i] ∧ H x = some (.ins (He.ga K "Place") dx []) ∧ okP b i ∧
  ∀ H', (∀ a o, H a = some o → a ≠ x → H' a = some o) → H' x = some (.ins (He.ga K "Place") dx (pfs b i)) → Q .non H'
end G
namespace G
open PySem PySem.Spec PyProof.Rows L2
/-! ### the law's own defs -/
def sp_cell (K : PySem.W.Frag) : Sp := fun vs H Q _ => vs.length = 2 ∧ ∃ (a : Addr) (ns : List Int) (k : Nat), vs = [.ref a, .int k] ∧ SqL K H a (ns.map V.int) ∧ k ≤ 100 ∧ ∀ c : Int, Q (.int c) H
/-- the box: what is left of the cell, the seed, how many were drawn -/
def Bx (H : Hp) (p : Addr) (N : Nat) : Prop := ∃ a b n : Int, H p = some (.lst [.int a, .int b, .int n]) ∧ 0 ≤ a ∧ 0 ≤ b ∧ b < 2147483563 ∧ 0 ≤ n ∧ n ≤ N
theorem Bx.mono {H : Hp} {p : Addr} {N M : Nat} (h : Bx H p N) (l : N ≤ M) : Bx H p M := by
  obtain ⟨a, b, n, h1, h2, h3, h4, h5, h6⟩ := h
  exact ⟨a, b, n, h1, h2, h3, h4, h5, by omega⟩
theorem Bx.same {H H' : Hp} {p : Addr} {N : Nat} (h : Bx H p N) (s : Same H H') : Bx H' p N := by
  obtain ⟨a, b, n, h1, h2⟩ := h
  exact ⟨a, b, n, s _ _ h1, h2⟩
/-- all but p is as it was -/
def But (p : Addr) (H H' : Hp) : Prop := ∀ a o, H a = some o → a ≠ p → H' a = some o
theorem But.tr {p : Addr} {H H1 H2 : Hp} (a : But p H H1) (b : But p H1 H2) : But p H H2 := fun x o e n => b x o (a x o e n) n
theorem But.of {p : Addr} {H H1 : Hp} (a : Same H H1) : But p H H1 := fun x o e _ => a x o e
theorem But.same {p : Addr} {H H1 H2 : Hp} (a : But p H H1) (b : Same H1 H2) : But p H H2 := a.tr (.of b)
theorem But.new {p q : Addr} {o : HO} {H H1 : Hp} (a : But p H H1) (h : H1 q = none) : But p H (upd H1 q o) := a.same (Same.new h)
theorem But.chg {p : Addr} {o : HO} {H H1 : Hp} (a : But p H H1) : But p H (upd H1 p o) := fun x u e n => by
  rw [upd_ne n]
  exact a x u e n
/-- what is not known to H and lies at q may change -/
theorem But.chg' {p q : Addr} {o : HO} {H H1 : Hp} (a : But p H H1) (h : H q = none) : But p H (upd H1 q o) := fun x u e n => by
  rw [upd_ne (ne_of_none e h)]
  exact a x u e n
theorem But.sqL {K : PySem.W.Frag} {p a : Addr} {H H' : Hp} {xs : List V} (e : But p H H') (n : a ≠ p) (h : SqL K H a xs) : SqL K H' a xs := by
  rcases h with (h | ⟨o, h⟩) | h
  · exact Or.inl (Or.inl (e _ _ h n))
  · exact Or.inl (Or.inr ⟨o, e _ _ h n⟩)
  · exact Or.inr h
theorem But.free {p q : Addr} {H H1 : Hp} (a : But p H H1) (h : H1 q = none) (n : q ≠ p) : H q = none := by
  cases e : H q with
  | none => rfl
  | some o => rw [a q o e n] at h; exact nomatch h
def sp_box : Sp := fun vs H Q _ => vs.length = 1 ∧ ∃ c : Int, vs = [.int c] ∧ ∀ (p : Addr) (H' : Hp), H p = none → Same H H' → Bx H' p 0 → Q (.ref p) H'
def sp_take : Sp := fun vs H Q _ => vs.length = 2 ∧ ∃ (p : Addr) (m : Int) (N : Nat), vs = [.ref p, .int m] ∧ Bx H p N ∧ N ≤ 10000 ∧ 0 < m ∧ m < 1073741824 ∧
  ∀ (r : Int) (H' : Hp), 0 ≤ r → r < m → Bx H' p (N + 1) → But p H H' → Q (.int r) H'
end G
namespace G
open PySem PySem.Spec PyProof.Rows L2
def sp_word : Sp := fun vs H Q _ => vs.length = 1 ∧ ∃ (p : Addr) (N : Nat), vs = [.ref p] ∧ Bx H p N ∧ N ≤ 9000 ∧ ∀ (z : Str) (H' : Hp), z.length ≤ 100 → Bx H' p (N + 20) → But p H H' → Q (.str z) H'
def sp_number : Sp := fun vs H Q _ => vs.length = 1 ∧ ∃ (p : Addr) (N : Nat), vs = [.ref p] ∧ Bx H p N ∧ N ≤ 9000 ∧ ∀ (z : Int) (H' : Hp), Bx H' p (N + 20) → But p H H' → Q (.int z) H'
end G
namespace G
open PySem PySem.Spec PyProof.Rows L2
def WDS : List V := [.str "old", .str "zero", .str "end", .str "fails", .str "more", .str "done", .str "none", .str "olds", .str "ol", .str "cut", .str "zeros", .str "n"]
theorem WDS_str : ∀ v ∈ WDS, ∃ y : Str, v = .str y ∧ y.length ≤ 100 := by
  intro v hv
  unfold WDS at hv
  simp only [List.mem_cons, List.not_mem_nil, or_false] at hv
  rcases hv with h | h | h | h | h | h | h | h | h | h | h | h <;> exact ⟨_, h, by decide⟩
end G
namespace G
open PySem PySem.Spec PyProof.Rows L2
def sp_any (K : PySem.W.Frag) : Sp := fun vs H Q _ => vs.length = 1 ∧ ∃ (p : Addr) (N : Nat), vs = [.ref p] ∧ Bx H p N ∧ N ≤ 9000 ∧ ∀ (v : V) (H' : Hp), Okv K H' v → Bx H' p (N + 20) → But p H H' → Q v H'
end G
namespace G
open PySem PySem.Spec PyProof.Rows L2
theorem le_sign (c d : Nat) : (!decide (([c] : List Nat) < [d])) = decide (d ≤ c) := by
  by_cases h : d ≤ c
  · rw [decide_eq_true h, decide_eq_false (fun z => ?_)] <;> try rfl
    rw [List.cons_lt_cons_iff] at z
    rcases z with z | ⟨_, z⟩
    · omega
    · exact absurd z (List.not_lt_nil _)
  · rw [decide_eq_false h, decide_eq_true ?_] <;> try rfl
    rw [List.cons_lt_cons_iff]
    exact Or.inl (by omega)
theorem abc_mem (c : Nat) : decide (c ∈ ABC.cps.toList) = (decide (97 ≤ c) && decide (c ≤ 122)) := by
  have e : ABC.cps.toList = [97, 98, 99, 100, 101, 102, 103, 104, 105, 106, 107, 108, 109, 110, 111, 112, 113, 114, 115, 116, 117, 118, 119, 120, 121, 122] := by decide +kernel
  rw [e, Bool.eq_iff_iff]
  simp only [decide_eq_true_eq, Bool.and_eq_true, List.mem_cons, List.not_mem_nil, or_false]
  omega
theorem due_name (x : Str) (z1 : (1 : Int) ≤ (x.length : Int)) (z2 : (x.length : Int) ≤ 6) :
    (((List.range x.cps.size).filter fun i => !(decide (97 ≤ x.cps.getD i 0) && decide (x.cps.getD i 0 ≤ 122))).map fun i => V.str ⟨#[x.cps.getD i 0]⟩).isEmpty = nameV (.str x) := by
  show _ = nameS x
  unfold nameS
  rw [decide_eq_true z1, decide_eq_true z2, Bool.true_and, Bool.true_and, ← range_all x.cps 0 fun c => decide (c ∈ ABC.cps.toList), List.isEmpty_map]
  rw [Bool.eq_iff_iff, List.isEmpty_iff, List.filter_eq_nil_iff, List.all_map, List.all_eq_true]
  refine forall_congr' fun i => forall_congr' fun _ => ?_
  simp only [Function.comp, id, abc_mem, Bool.not_eq_true, Bool.not_eq_false']
end G
namespace G
open PySem PySem.Spec PyProof.Rows L2
def sp_right (K : PySem.W.Frag) : Sp := fun vs H Q _ => vs.length = 3 ∧ ∃ (v : V) (a b : Int), vs = [v, .int a, .int b] ∧ Okv K H v ∧ ∀ H', Same H H' → Q (.bl true) H'
end G
namespace G
open PySem PySem.Spec PyProof.Rows L2
theorem bools3 {K : PySem.W.Frag} {H : Hp} {a : Addr} {x y z : Bool} (h : SqL K H a [.bl x, .bl y, .bl z]) : Dp K H (.ref a) (.list [.bool x, .bool y, .bool z]) := .lst h (.cons (.bl x) (.cons (.bl y) (.cons (.bl z) .nil)))
theorem shown3 (x y z : Bool) : (PyData.list [.bool x, .bool y, .bool z]).shown.length ≤ sizeLine := by
  cases x <;> cases y <;> cases z <;> decide +kernel
end G
namespace G
open PySem PySem.Spec PyProof.Rows L2
def sp_law (K : PySem.W.Frag) : Sp := fun vs H Q _ => vs.length = 1 ∧ ∃ (a : Addr) (ns : List Int), vs = [.ref a] ∧ SqL K H a (ns.map V.int) ∧ ns.length ≤ 63 ∧ ∀ H', Q (.bl true) H'
end G

namespace G
open PySem PySem.Spec PyProof.Rows L2
theorem sc_is_integer : FnScope ["value", "low", "high"] ["value", "low", "high"] (defScope s_is_integer) := ⟨rfl, rfl, rfl, by decide +kernel, rfl, by decide +kernel, by decide +kernel⟩
section
variable {P : Program} {w : World} {K : PySem.W.Frag} {mg : Str → Option Value} {base : Heap}
theorem fn_is_integer (T : Tx K mg)  {fd : FuncData} (F : FunD K d_is_integer.name d_is_integer.qual d_is_integer.params d_is_integer.body d_is_integer.scope (d_is_integer.dvs K) (d_is_integer.kws K) (He.fAd K d_is_integer.at_) fd) : FnOk P w K mg base CX0 1 (He.fAd K d_is_integer.at_) fd ["value", "low", "high"] (sp_is_integer K) := by
  refine F.ok sc_is_integer (fun vs H Q E h => ?_) (fun cdv A outer s H vs Q E hr h => ?_)
  · exact lenOf h
  · have hu := hu_of hr
    have hu64 := hr.units
    have sz : 100000 ≤ sizeLine := by decide
    refine ⟨_, PSs.nox (pss_one (ps_ret (pe_and (pe_callB call_isi rfl T.f_isinstance PyProof.Rows.boot_isinstance (pa_cons (pv 0) (pa_cons (pe_bltn (v := .ty "int") rfl T.f_int PyProof.Rows.boot_int rfl) pa_nil))) (pe_and (pe_not (pe_callB call_isi rfl T.f_isinstance PyProof.Rows.boot_isinstance (pa_cons (pv 0) (pa_cons (pe_bltn (v := .ty "bool") rfl T.f_bool PyProof.Rows.boot_bool rfl) pa_nil)))) (pe_one (pe_chain op_le op_le (pv 1) (pv 0) (pv 2))))))), ?_⟩
    obtain ⟨_, v, lo, hi, rfl, ⟨t, ty, k1, k2, _⟩, q⟩ := h
    refine ⟨_, rfl, _, _, t, _, _, rfl, .ty _, ty, k1, _, rfl, ?_⟩
    cases v with
    | int i =>
      refine iteT ?_
      refine ⟨_, rfl, _, _, t, _, _, rfl, .ty _, ty, k2, _, rfl, _, rfl, ?_⟩
      refine iteT ?_
      refine ⟨_, rfl, _, rfl, _, _, rfl, rfl, _, rfl, ?_⟩
      refine ite2 (fun z => ?_) (fun z => ?_)
      · refine ⟨_, rfl, _, _, rfl, rfl, ?_⟩
        rw [inR_int, z, Bool.true_and] at q
        exact q
      · rw [inR_int, Bool.eq_false_iff.mpr z, Bool.false_and] at q
        exact q
    | bl b =>
      refine iteT ?_
      refine ⟨_, rfl, _, _, t, _, _, rfl, .ty _, ty, k2, _, rfl, _, rfl, ?_⟩
      exact iteF q
    | _ => exact iteF q
theorem cal_is_integer (T : Tx K mg)  : C8.Cal P w K mg base 1 "is_integer" (sp_is_integer K) [] := by
  obtain ⟨fd, F⟩ := T.d_is_integer
  exact ⟨_, fd, ["value", "low", "high"], [], fn_is_integer T  F, T.g_is_integer, F.kp, FunD.bindsN (ps := ["value", "low", "high"]) F (fun _ _ _ _ _ _ us hl => match us, hl with | [_, _, _], _ => rfl), .nil⟩

theorem kw_is_integer (T : Tx K mg) : CalK P w K mg base 1 "is_integer" (sp_is_integer K) 0 ["value", "low", "high"] (fun _ zs => zs) := by
  obtain ⟨fd, F⟩ := T.d_is_integer
  exact ⟨_, fd, ["value", "low", "high"], _, fn_is_integer T F, T.g_is_integer, F.kp, FunD.kbindsN (ps := ["value", "low", "high"]) F 0 ["value", "low", "high"] (fun _ zs => zs) (fun _ r => r) (fun _ _ _ _ _ _ us ws h1 h2 => match us, ws, h1, h2 with | [], [_, _, _], _, _ => rfl)⟩

end
end G
namespace G
open PySem PySem.Spec PyProof.Rows L2
theorem sc_is_name : FnScope ["value", "sign"] ["value"] (defScope s_is_name) := ⟨rfl, rfl, rfl, by decide +kernel, rfl, by decide +kernel, by decide +kernel⟩
section
variable {P : Program} {w : World} {K : PySem.W.Frag} {mg : Str → Option Value} {base : Heap}
theorem fn_is_name (T : Tx K mg)  {fd : FuncData} (F : FunD K d_is_name.name d_is_name.qual d_is_name.params d_is_name.body d_is_name.scope (d_is_name.dvs K) (d_is_name.kws K) (He.fAd K d_is_name.at_) fd) : FnOk P w K mg base CX0 1 (He.fAd K d_is_name.at_) fd ["value"] (sp_is_name K) := by
  refine F.ok sc_is_name (fun vs H Q E h => ?_) (fun cdv A outer s H vs Q E hr h => ?_)
  · exact lenOf h
  · have hu := hu_of hr
    have hu64 := hr.units
    have sz : 100000 ≤ sizeLine := by decide
    refine ⟨_, PSs.nox (pss_cons (ps_if (PW.pt (pw_or (pt_not (pt_val (pe_callB call_isi rfl T.f_isinstance PyProof.Rows.boot_isinstance (pa_cons (pv 0) (pa_cons (pe_bltn (v := .ty "str") rfl T.f_str PyProof.Rows.boot_str rfl) pa_nil))))) (pw_or1 (pt_not (pt_chain op_le op_le pe_int (pe_callB call_len_str rfl T.f_len PySem.boot_len (pa_cons (pv 0) pa_nil)) (C8.pe_gc (v := .int 6) rfl T.c_MOST_LETTERS)))))) (pss_one (ps_ret pe_bl)) pss_nil)
      (pss_one (ps_ret (pe_callB (cr_all rfl) rfl T.f_all PyProof.Rows.boot_all (pa_cons (pe_lc (own := [("sign", 1)]) (g := gName 1) (tt := tYes) rfl sc_is_name.nd (pi_str (pv 0)) (blkOk_by (N := ["value", "sign"]) (sc := defScope s_is_name) (by decide +kernel)) (fun _ _ _ _ _ => (pg_name (i := 1) sc_is_name.nd rfl (Or.inl rfl))) (fun _ _ _ _ _ => pts_nil) (fun _ _ _ _ _ => (pe_cmpR op_in_sign (pv 1) (C8.pe_gc (v := .str "abcdefghijklmnopqrstuvwxyz") rfl T.c_LETTERS) rfl))) pa_nil))))), ?_⟩
    obtain ⟨_, v, rfl, ⟨⟨t, ty, _, _, k3⟩, hx⟩, q⟩ := h
    refine ⟨_, rfl, _, _, t, _, _, rfl, .ty _, ty, k3, _, rfl, ?_⟩
    cases v with
    | str x =>
      refine iteF ?_
      have hl := hx x rfl
      have hl2 : x.length ≤ sizeLine := Nat.le_trans hl (by decide)
      refine ⟨_, rfl, _, rfl, hl2, _, _, rfl, rfl, _, rfl, ?_⟩
      by_cases z1 : (1 : Int) ≤ (x.length : Int)
      · rw [decide_eq_true z1]
        refine iteT ?_
        refine ⟨_, _, rfl, rfl, _, rfl, ?_⟩
        by_cases z2 : (x.length : Int) ≤ 6
        · rw [decide_eq_true z2]
          refine iteF ?_
          refine ⟨_, rfl, _, rfl, fun D hD => lc_map walk_str (fun i => .str ⟨#[x.cps.getD i 0]⟩) (fun i => .bl (decide (x.cps.getD i 0 ∈ ABC.cps.toList))) ?_ ?_ hD ?_ ?_ ?_ ?_⟩
          · rintro i H1 y H2 hi ⟨e, c, hc, rfl⟩
            exact ⟨e, by rw [Array.getD_eq_getD_getElem?, hc]; rfl⟩
          · exact hl
          · intro _ _; trivial
          · intro y; rfl
          · intro i H1 hi s1 Q' hq
            exact ⟨_, rfl, _, _, rfl, rfl, hq H1 Same.rfl'⟩
          · intro H' s1 hL
            refine ⟨_, (List.range x.cps.size).map (fun i => decide (x.cps.getD i 0 ∈ ABC.cps.toList)), rfl, lst_sq (by rw [hL, List.map_map]; rfl), ?_⟩
            have e : ((List.range x.cps.size).map (fun i => decide (x.cps.getD i 0 ∈ ABC.cps.toList))).all id = nameS x := by
              unfold nameS
              rw [decide_eq_true z1, decide_eq_true z2, range_all x.cps 0 fun c => decide (c ∈ ABC.cps.toList)]
              rfl
            rw [e]
            exact q H' s1
        · rw [decide_eq_false z2]
          refine iteT ?_
          have e : nameV (.str x) = false := by
            show nameS x = false
            unfold nameS
            rw [decide_eq_false z2, Bool.and_false, Bool.false_and]
          rw [e] at q
          exact q H Same.rfl'
      · rw [decide_eq_false z1]
        walk_at "s"
        have e : nameV (.str x) = false := by
          show nameS x = false
          unfold nameS
          rw [decide_eq_false z1, Bool.false_and, Bool.false_and]
        rw [e] at q
        exact q H Same.rfl'
    | _ => exact iteT (iteT (q H Same.rfl'))
theorem cal_is_name (T : Tx K mg)  : C8.Cal P w K mg base 1 "is_name" (sp_is_name K) [] := by
  obtain ⟨fd, F⟩ := T.d_is_name
  exact ⟨_, fd, ["value"], [], fn_is_name T  F, T.g_is_name, F.kp, FunD.bindsN (ps := ["value"]) F (fun _ _ _ _ _ _ us hl => match us, hl with | [_], _ => rfl), .nil⟩

theorem kw_is_name (T : Tx K mg) : CalK P w K mg base 1 "is_name" (sp_is_name K) 0 ["value"] (fun _ zs => zs) := by
  obtain ⟨fd, F⟩ := T.d_is_name
  exact ⟨_, fd, ["value"], _, fn_is_name T F, T.g_is_name, F.kp, FunD.kbindsN (ps := ["value"]) F 0 ["value"] (fun _ zs => zs) (fun _ r => r) (fun _ _ _ _ _ _ us ws h1 h2 => match us, ws, h1, h2 with | [], [_], _, _ => rfl)⟩

end
end G
namespace G
open PySem PySem.Spec PyProof.Rows L2
theorem sc_is_mark : FnScope ["value"] ["value"] (defScope s_is_mark) := ⟨rfl, rfl, rfl, by decide +kernel, rfl, by decide +kernel, by decide +kernel⟩
section
variable {P : Program} {w : World} {K : PySem.W.Frag} {mg : Str → Option Value} {base : Heap}
theorem fn_is_mark (T : Tx K mg)  {fd : FuncData} (F : FunD K d_is_mark.name d_is_mark.qual d_is_mark.params d_is_mark.body d_is_mark.scope (d_is_mark.dvs K) (d_is_mark.kws K) (He.fAd K d_is_mark.at_) fd) : FnOk P w K mg base CX0 2 (He.fAd K d_is_mark.at_) fd ["value"] (sp_is_mark K) := by
  refine F.ok sc_is_mark (fun vs H Q E h => ?_) (fun cdv A outer s H vs Q E hr h => ?_)
  · exact lenOf h
  · have hu := hu_of hr
    have hu64 := hr.units
    have sz : 100000 ≤ sizeLine := by decide
    have C_is_name := cal_is_name (P := P) (w := w) (base := base) T
    refine ⟨_, PSs.nox (pss_one (ps_ret (pe_and (C8.pe_c C_is_name hr (by decide) rfl (pa_cons (pv 0) pa_nil)) (pe_one (pe_cmpR op_notIn_seq (pv 0) (C8.pe_gc (v := .ref (He.ga K "RESERVED")) rfl T.c_RESERVED) rfl))))), ?_⟩
    obtain ⟨_, v, rfl, ov, q⟩ := h
    refine ⟨_, rfl, rfl, _, rfl, ov, fun H1 s1 => ⟨_, rfl, ?_⟩⟩
    cases e : nameV v with
    | false =>
      refine iteF ?_
      have z : markV v = false := by unfold markV; rw [e]; rfl
      rw [z] at q
      exact q H1 s1
    | true =>
      refine iteT ?_
      cases v with
      | str x =>
        refine ⟨_, rfl, _, _, rfl, .inr (T.t_RES H1), rfl, rfl, ?_⟩
        have z : markV (.str x) = !inV (.str x) RESV := by unfold markV; rw [e]; rfl
        rw [z] at q
        exact q H1 s1
      | _ => exact nomatch e
theorem cal_is_mark (T : Tx K mg)  : C8.Cal P w K mg base 2 "is_mark" (sp_is_mark K) [] := by
  obtain ⟨fd, F⟩ := T.d_is_mark
  exact ⟨_, fd, ["value"], [], fn_is_mark T  F, T.g_is_mark, F.kp, FunD.bindsN (ps := ["value"]) F (fun _ _ _ _ _ _ us hl => match us, hl with | [_], _ => rfl), .nil⟩

theorem kw_is_mark (T : Tx K mg) : CalK P w K mg base 2 "is_mark" (sp_is_mark K) 0 ["value"] (fun _ zs => zs) := by
  obtain ⟨fd, F⟩ := T.d_is_mark
  exact ⟨_, fd, ["value"], _, fn_is_mark T F, T.g_is_mark, F.kp, FunD.kbindsN (ps := ["value"]) F 0 ["value"] (fun _ zs => zs) (fun _ r => r) (fun _ _ _ _ _ _ us ws h1 h2 => match us, ws, h1, h2 with | [], [_], _, _ => rfl)⟩

end
end G
namespace G
open PySem PySem.Spec PyProof.Rows L2
theorem sc_least_shift : FnScope ["base"] ["base"] (defScope s_least_shift) := ⟨rfl, rfl, rfl, by decide +kernel, rfl, by decide +kernel, by decide +kernel⟩
section
variable {P : Program} {w : World} {K : PySem.W.Frag} {mg : Str → Option Value} {base : Heap}
theorem fn_least_shift (T : Tx K mg)  {fd : FuncData} (F : FunD K d_least_shift.name d_least_shift.qual d_least_shift.params d_least_shift.body d_least_shift.scope (d_least_shift.dvs K) (d_least_shift.kws K) (He.fAd K d_least_shift.at_) fd) : FnOk P w K mg base CX0 1 (He.fAd K d_least_shift.at_) fd ["base"] sp_least_shift := by
  refine F.ok sc_least_shift (fun vs H Q E h => ?_) (fun cdv A outer s H vs Q E hr h => ?_)
  · exact lenOf h
  · have hu := hu_of hr
    have hu64 := hr.units
    have sz : 100000 ≤ sizeLine := by decide
    refine ⟨_, PSs.nox (pss_one (ps_ret (pe_ifExp (pt_cmpR op_eq (pv 0) pe_str (nomark _)) pe_int (pe_un un_neg (C8.pe_gc (v := .int 3) rfl T.c_MOST_SHIFT))))), ?_⟩
    obtain ⟨_, x, rfl, q⟩ := h
    refine ⟨_, rfl, rfl, _, rfl, ?_⟩
    unfold leastS at q
    by_cases z : x = ""
    · subst z
      rw [if_pos rfl] at q
      rw [decide_eq_true rfl]
      exact iteT q
    · rw [if_neg z] at q
      rw [decide_eq_false (fun e => z (V.str.inj e))]
      refine iteF ⟨_, rfl, q⟩
theorem cal_least_shift (T : Tx K mg)  : C8.Cal P w K mg base 1 "least_shift" sp_least_shift [] := by
  obtain ⟨fd, F⟩ := T.d_least_shift
  exact ⟨_, fd, ["base"], [], fn_least_shift T  F, T.g_least_shift, F.kp, FunD.bindsN (ps := ["base"]) F (fun _ _ _ _ _ _ us hl => match us, hl with | [_], _ => rfl), .nil⟩

end
end G
namespace G
open PySem PySem.Spec PyProof.Rows L2
theorem sc_Place___init__ : FnScope ["self", "base", "shift"] ["self", "base", "shift"] (defScope s_Place___init__) := ⟨rfl, rfl, rfl, by decide +kernel, rfl, by decide +kernel, by decide +kernel⟩
section
variable {P : Program} {w : World} {K : PySem.W.Frag} {mg : Str → Option Value} {base : Heap}
theorem fn_Place___init__ (T : Tx K mg)  {fd : FuncData} (F : FunD K d_Place___init__.name d_Place___init__.qual d_Place___init__.params d_Place___init__.body d_Place___init__.scope (d_Place___init__.dvs K) (d_Place___init__.kws K) (He.fAd K d_Place___init__.at_) fd) : FnOk P w K mg base CX0 3 (He.fAd K d_Place___init__.at_) fd ["self", "base", "shift"] (sp_init K) := by
  refine F.ok sc_Place___init__ (fun vs H Q E h => ?_) (fun cdv A outer s H vs Q E hr h => ?_)
  · exact lenOf h
  · have hu := hu_of hr
    have hu64 := hr.units
    have sz : 100000 ≤ sizeLine := by decide
    have C_is_name := cal_is_name (P := P) (w := w) (base := base) T
    have C_is_integer := cal_is_integer (P := P) (w := w) (base := base) T
    have C_least_shift := cal_least_shift (P := P) (w := w) (base := base) T
    refine ⟨_, PSs.nox (pss_cons (ps_if (PW.pt (pw_and (pt_cmpR op_ne (pv 1) pe_str (nomark _)) (pw_and1 (pt_not (pt_val (C8.pe_c C_is_name hr (by decide) rfl (pa_cons (pv 1) pa_nil))))))) (pss_one ps_never) pss_nil)
      (pss_cons (ps_if (pt_not (pt_val (C8.pe_c C_is_integer hr (by decide) rfl (pa_cons (pv 2) (pa_cons (C8.pe_c C_least_shift hr (by decide) rfl (pa_cons (pv 1) pa_nil)) (pa_cons (C8.pe_gc (v := .int 3) rfl T.c_MOST_SHIFT) pa_nil)))))) (pss_one ps_never) pss_nil)
      (pss_cons (ps_fld (pv 0) (pv 1) rfl)
      (pss_one (ps_fld (pv 0) (pv 2) rfl))))), ?_⟩
    obtain ⟨_, x, dx, b, i, rfl, hx, ⟨hg1, hg2, hg3⟩, q⟩ := h
    -- if base != "" and not is_name(base)
    refine ⟨_, rfl, rfl, _, rfl, ?_⟩
    have fin : ∀ H1, Same H H1 → inR (.int i) (leastS b) 3 = true ∧ H1 x = some (.ins (He.ga K "Place") dx []) := fun H1 s1 => ⟨by rw [inR_int, decide_eq_true hg2, decide_eq_true hg3]; rfl, s1 _ _ hx⟩
    by_cases z : b = ""
    · rw [decide_eq_true (congrArg V.str z)]
      refine iteF ?_
      refine iteF ?_
      obtain ⟨f1, f2⟩ := fin H Same.rfl'
      refine ⟨_, rfl, _, rfl, rfl, _, rfl, rfl, _, _, _, rfl, Ask.int i, _, rfl, ?_⟩
      rw [f1]
      refine iteF ?_
      refine ⟨_, rfl, _, rfl, x, _, dx, [], rfl, f2, T.cl_Place, T.nb_Place, (by decide), ?_⟩
      refine ⟨_, rfl, _, rfl, x, _, dx, _, rfl, upd_same, T.cl_Place, T.ns_Place, (by show 1 < 1000; decide), ?_⟩
      refine q _ (fun a o e na => ?_) upd_same
      rw [upd_ne na, upd_ne na]
      exact e
    · have nb : nameS b = true := hg1.resolve_left z
      rw [decide_eq_false (fun e => z (V.str.inj e))]
      refine iteT ?_
      refine ⟨_, rfl, rfl, _, rfl, ⟨Ask.str b, fun y e => by cases e; exact Nat.le_trans (nameS_len nb) (by decide)⟩, fun H1 s1 => ⟨_, rfl, ?_⟩⟩
      rw [show nameV (.str b) = true from nb]
      refine iteF ?_
      obtain ⟨f1, f2⟩ := fin H1 s1
      refine ⟨_, rfl, _, rfl, rfl, _, rfl, rfl, _, _, _, rfl, Ask.int i, _, rfl, ?_⟩
      rw [f1]
      refine iteF ?_
      refine ⟨_, rfl, _, rfl, x, _, dx, [], rfl, f2, T.cl_Place, T.nb_Place, (by decide), ?_⟩
      refine ⟨_, rfl, _, rfl, x, _, dx, _, rfl, upd_same, T.cl_Place, T.ns_Place, (by show 1 < 1000; decide), ?_⟩
      refine q _ (fun a o e na => ?_) upd_same
      rw [upd_ne na, upd_ne na]
      exact s1 a o e

theorem mk_Place1 (T : Tx K mg) : C8.Mak P w K mg base 3 "Place" (He.ga K "Place") (sp_init K) [.int 0] := by
  obtain ⟨fd, F⟩ := T.d_Place___init__
  obtain ⟨ds, hv, hb⟩ := FunD.binds (ps := ["self", "base", "shift"]) F 2 1 (List.cons_ne_nil _ _) rfl (fun Tt D doc pm an cdv ct us its ks h1 h2 h3 => match us, its, ks, h1, h2, h3 with
    | [_, _], [_], [_], _, _, _ => ⟨_, rfl, _, _, _, _, _, _, rfl, rfl, rfl⟩) (List.cons_ne_nil _ _)
  exact ⟨_, fd, _, ds, T.mk_Place, fn_Place___init__ T F, T.g_Place, hb, hv⟩
theorem mk_PlaceK (T : Tx K mg) : ∃ (fd : FuncData) (g : List Value → List Value → List Value), FnOk P w K mg base CX0 3 (He.ma K (He.ga K "Place") "__init__") fd ["self", "base", "shift"] (sp_init K) ∧ KBn K fd ["self", "base", "shift"] 1 ["shift"] g (fun vs zs => vs ++ [.str ""] ++ zs) := by
  obtain ⟨fd, F⟩ := T.d_Place___init__
  obtain ⟨its, mv, kb⟩ := FunD.kbinds (ps := ["self", "base", "shift"]) F 1 ["shift"] [] (fun vs ds mz zs => vs ++ ds ++ zs) (List.cons_ne_nil _ _) (List.cons_ne_nil _ _) (fun q hq => nomatch hq) (fun a b c d => (a.append b).append d)
    (fun Tt D doc pm an cdv ct us its mv ws h1 h2 h3 h4 => match us, its, mv, ws, h1, h2, h3, h4 with
    | [_], [_], [], [_], _, _, _, _ => ⟨_, rfl, rfl⟩)
  exact ⟨fd, _, fn_Place___init__ T F, kb⟩

end
end G
namespace G
open PySem PySem.Spec PyProof.Rows L2
theorem sc__law_cell : FnScope ["_law_script", "_law_k"] ["_law_script", "_law_k"] (defScope s__law_cell) := ⟨rfl, rfl, rfl, by decide +kernel, rfl, by decide +kernel, by decide +kernel⟩
section
variable {P : Program} {w : World} {K : PySem.W.Frag} {mg : Str → Option Value} {base : Heap}
theorem fn__law_cell (T : Tx K mg)  {fd : FuncData} (F : FunD K d__law_cell.name d__law_cell.qual d__law_cell.params d__law_cell.body d__law_cell.scope (d__law_cell.dvs K) (d__law_cell.kws K) (He.fAd K d__law_cell.at_) fd) : FnOk P w K mg base CX0 1 (He.fAd K d__law_cell.at_) fd ["_law_script", "_law_k"] (sp_cell K) := by
  refine F.ok sc__law_cell (fun vs H Q E h => ?_) (fun cdv A outer s H vs Q E hr h => ?_)
  · exact lenOf h
  · have hu := hu_of hr
    have hu64 := hr.units
    have sz : 100000 ≤ sizeLine := by decide
    refine ⟨_, PSs.nox (pss_one (ps_ret (pe_ifExp (pt_cmpR op_lt (pv 1) (pe_callB call_len_seq rfl T.f_len PySem.boot_len (pa_cons (pv 0) pa_nil)) (nomark _)) (pe_ix ix_list (pv 0) (pv 1) (fun _ _ => rfl)) (pe_op op_add (pe_op op_mul pe_int (pv 1)) pe_int)))), ?_⟩
    obtain ⟨_, a, ns, k, rfl, hS, hk, q⟩ := h
    refine ⟨_, rfl, _, rfl, a, _, rfl, .inl hS, _, _, rfl, rfl, _, rfl, ?_⟩
    rw [List.length_map]
    refine ite2 (fun z => ?_) (fun z => ?_)
    · have z2 : k < ns.length := by have := of_decide_eq_true z; omega
      refine ⟨_, rfl, _, rfl, a, _, _, _, rfl, rfl, hS, atI_nat (v := .int ns[k]) (by rw [List.getElem?_map, List.getElem?_eq_getElem z2]; rfl), q _⟩
    · refine ⟨_, rfl, _, _, rfl, rfl, .inl ⟨by decide, by decide⟩, _, _, rfl, rfl, q _⟩
theorem cal__law_cell (T : Tx K mg)  : C8.Cal P w K mg base 1 "_law_cell" (sp_cell K) [] := by
  obtain ⟨fd, F⟩ := T.d__law_cell
  exact ⟨_, fd, ["_law_script", "_law_k"], [], fn__law_cell T  F, T.g__law_cell, F.kp, FunD.bindsN (ps := ["_law_script", "_law_k"]) F (fun _ _ _ _ _ _ us hl => match us, hl with | [_, _], _ => rfl), .nil⟩

end
end G
namespace G
open PySem PySem.Spec PyProof.Rows L2
theorem sc__law_box : FnScope ["_law_cell_here"] ["_law_cell_here"] (defScope s__law_box) := ⟨rfl, rfl, rfl, by decide +kernel, rfl, by decide +kernel, by decide +kernel⟩
section
variable {P : Program} {w : World} {K : PySem.W.Frag} {mg : Str → Option Value} {base : Heap}
theorem fn__law_box (T : Tx K mg)  {fd : FuncData} (F : FunD K d__law_box.name d__law_box.qual d__law_box.params d__law_box.body d__law_box.scope (d__law_box.dvs K) (d__law_box.kws K) (He.fAd K d__law_box.at_) fd) : FnOk P w K mg base CX0 1 (He.fAd K d__law_box.at_) fd ["_law_cell_here"] sp_box := by
  refine F.ok sc__law_box (fun vs H Q E h => ?_) (fun cdv A outer s H vs Q E hr h => ?_)
  · exact lenOf h
  · have hu := hu_of hr
    have hu64 := hr.units
    have sz : 100000 ≤ sizeLine := by decide
    refine ⟨_, PSs.nox (pss_one (ps_ret (pe_lst (pa_cons (pe_callB (call_max2 rfl) rfl T.f_max PyProof.Rows.boot_max (pa_cons pe_int (pa_cons (pe_op op_sub (pv 0) (pe_op op_pow pe_int pe_int)) pa_nil))) (pa_cons (pe_op op_mod (pe_callTy call_int1 rfl T.f_int PyProof.Rows.boot_int (pa_cons (pv 0) pa_nil)) pe_int) (pa_cons pe_int pa_nil)))))), ?_⟩
    obtain ⟨_, c, rfl, q⟩ := h
    refine ⟨_, rfl, _, _, rfl, rfl, ⟨by decide, by decide, by decide⟩, _, _, rfl, rfl, _, _, rfl, _, rfl, .inl ⟨_, rfl, _, _, rfl, rfl, (by show (0 : Int) < 2147483563; decide), (by show 3 ≤ sizeLine; decide), fun p hp => ?_⟩⟩
    refine q p _ hp (Same.new hp) ⟨_, _, _, upd_same, ?_, ?_, ?_, ?_, ?_⟩
    · split <;> omega
    · exact Int.emod_nonneg _ (by decide)
    · exact Int.emod_lt_of_pos _ (by decide)
    · exact Int.le_refl 0
    · exact Int.le_refl 0
theorem cal__law_box (T : Tx K mg)  : C8.Cal P w K mg base 1 "_law_box" sp_box [] := by
  obtain ⟨fd, F⟩ := T.d__law_box
  exact ⟨_, fd, ["_law_cell_here"], [], fn__law_box T  F, T.g__law_box, F.kp, FunD.bindsN (ps := ["_law_cell_here"]) F (fun _ _ _ _ _ _ us hl => match us, hl with | [_], _ => rfl), .nil⟩

end
end G
namespace G
open PySem PySem.Spec PyProof.Rows L2
theorem sc__law_take : FnScope ["_law_box_here", "_law_many", "_law_digit", "_law_mixed"] ["_law_box_here", "_law_many"] (defScope s__law_take) := ⟨rfl, rfl, rfl, by decide +kernel, rfl, by decide +kernel, by decide +kernel⟩
section
variable {P : Program} {w : World} {K : PySem.W.Frag} {mg : Str → Option Value} {base : Heap}
theorem fn__law_take (T : Tx K mg)  {fd : FuncData} (F : FunD K d__law_take.name d__law_take.qual d__law_take.params d__law_take.body d__law_take.scope (d__law_take.dvs K) (d__law_take.kws K) (He.fAd K d__law_take.at_) fd) : FnOk P w K mg base CX0 1 (He.fAd K d__law_take.at_) fd ["_law_box_here", "_law_many"] sp_take := by
  refine F.ok sc__law_take (fun vs H Q E h => ?_) (fun cdv A outer s H vs Q E hr h => ?_)
  · exact lenOf h
  · have hu := hu_of hr
    have hu64 := hr.units
    have sz : 100000 ≤ sizeLine := by decide
    refine ⟨_, PSs.nox (pss_cons (ps_if (pt_cmpR op_gt (pe_ix ix_list (pv 0) pe_int (fun _ _ => rfl)) pe_int (nomark _)) (pss_cons (ps_set (i := 2) sc__law_take.nd rfl (Or.inl rfl) (pe_op op_mod (pe_callTy call_int1 rfl T.f_int PyProof.Rows.boot_int (pa_cons (pe_ix ix_list (pv 0) pe_int (fun _ _ => rfl)) pa_nil)) (pv 1)))
      (pss_cons (ps_asg (pe_op op_fdiv (pe_ix ix_list (pv 0) pe_int (fun _ _ => rfl)) (pv 1)) (pg_sub (pv 0) pe_int set_list))
      (pss_one (ps_ret (pv 2))))) pss_nil)
      (pss_cons (ps_asg (pe_op op_add (pe_ix ix_list (pv 0) pe_int (fun _ _ => rfl)) pe_int) (pg_sub (pv 0) pe_int set_list))
      (pss_cons (ps_set (i := 3) sc__law_take.nd rfl (Or.inl rfl) (pe_op op_mod (pe_op op_pow (pe_callTy call_int1 rfl T.f_int PyProof.Rows.boot_int (pa_cons (pe_op op_add (pe_op op_add (pe_ix ix_list (pv 0) pe_int (fun _ _ => rfl)) (pe_op op_mul pe_int (pe_ix ix_list (pv 0) pe_int (fun _ _ => rfl)))) pe_int) pa_nil)) pe_int) pe_int))
      (pss_cons (ps_set (i := 3) sc__law_take.nd rfl (Or.inl rfl) (pe_op op_mod (pe_op op_pow (pe_callTy call_int1 rfl T.f_int PyProof.Rows.boot_int (pa_cons (pe_op op_add (pv 3) (pe_op op_mul pe_int (pe_ix ix_list (pv 0) pe_int (fun _ _ => rfl)))) pa_nil)) pe_int) pe_int))
      (pss_one (ps_ret (pe_op op_mod (pe_op op_fdiv (pv 3) pe_int) (pv 1)))))))), ?_⟩
    obtain ⟨_, p, m, N, rfl, ⟨a, b, n, hp, ha, hb1, hb2, hn1, hn2⟩, hN, hm1, hm2, q⟩ := h
    have ix : ∀ {H' : Hp} {x y z : V}, H' p = some (.lst [x, y, z]) → SqL K H' p [x, y, z] := fun e => lst_sq e
    refine ⟨_, rfl, p, _, _, _, rfl, rfl, ix hp, rfl, _, _, rfl, rfl, _, rfl, ?_⟩
    refine ite2 (fun z => ?_) (fun z => ?_)
    · refine ⟨_, rfl, p, _, _, _, rfl, rfl, ix hp, rfl, .inl ⟨_, rfl, _, rfl, _, _, rfl, rfl, hm1, ?_⟩⟩
      refine ⟨_, rfl, p, _, _, _, rfl, rfl, ix hp, rfl, _, rfl, _, _, rfl, rfl, ⟨hm1, hm2⟩, _, rfl, p, _, _, _, rfl, rfl, hp, rfl, ?_⟩
      refine ⟨_, rfl, ?_⟩
      refine q _ _ (Int.emod_nonneg _ (by omega)) (Int.emod_lt_of_pos _ hm1) ⟨_, b, n, upd_same, Int.ediv_nonneg ha (by omega), hb1, hb2, hn1, by omega⟩ ?_
      exact But.chg (But.of Same.rfl')
    · refine ⟨_, rfl, p, _, _, _, rfl, rfl, ix hp, rfl, _, _, rfl, rfl, _, rfl, p, _, _, _, rfl, rfl, hp, rfl, ?_⟩
      refine ⟨_, rfl, p, _, _, _, rfl, rfl, ix upd_same, rfl, _, rfl, p, _, _, _, rfl, rfl, ix upd_same, rfl, _, _, rfl, rfl, .inl ⟨by decide, by decide⟩, _, _, rfl, rfl, _, _, rfl, rfl, .inl ⟨_, rfl, ?_⟩⟩
      refine ⟨_, _, rfl, rfl, ⟨by decide, by decide, by omega⟩, _, _, rfl, rfl, (by show (0 : Int) < 2147483647; decide), ?_⟩
      have hr1 := Int.emod_nonneg ((b + 7349 * (n + 1) + 223) ^ 5) (by decide : (2147483647 : Int) ≠ 0)
      have hr2 := Int.emod_lt_of_pos ((b + 7349 * (n + 1) + 223) ^ 5) (by decide : (0 : Int) < 2147483647)
      refine ⟨_, rfl, _, rfl, p, _, _, _, rfl, rfl, ix upd_same, rfl, _, _, rfl, rfl, .inl ⟨by decide, by decide⟩, _, _, rfl, rfl, .inl ⟨_, rfl, ?_⟩⟩
      refine ⟨_, _, rfl, rfl, ⟨by decide, by decide, ?_⟩, _, _, rfl, rfl, (by show (0 : Int) < 2147483587; decide), ?_⟩
      · show ((b + 7349 * (n + 1) + 223) ^ 5 % 2147483647 + 104729 * (n + 1)).natAbs < 2 ^ 64
        omega
      · refine ⟨_, rfl, _, _, rfl, rfl, ⟨by decide, by decide⟩, _, rfl, _, _, rfl, rfl, hm1, ?_⟩
        exact q _ _ (Int.emod_nonneg _ (by omega)) (Int.emod_lt_of_pos _ hm1) ⟨a, b, n + 1, upd_same, ha, hb1, hb2, by omega, by omega⟩ (But.chg (But.of Same.rfl'))
theorem cal__law_take (T : Tx K mg)  : C8.Cal P w K mg base 1 "_law_take" sp_take [] := by
  obtain ⟨fd, F⟩ := T.d__law_take
  exact ⟨_, fd, ["_law_box_here", "_law_many"], [], fn__law_take T  F, T.g__law_take, F.kp, FunD.bindsN (ps := ["_law_box_here", "_law_many"]) F (fun _ _ _ _ _ _ us hl => match us, hl with | [_, _], _ => rfl), .nil⟩

end
end G
namespace G
open PySem PySem.Spec PyProof.Rows L2
theorem sc__law_word : FnScope ["_law_box_here", "_law_letters", "_law_word_here", "_law_at", "_law_some", "_law_k"] ["_law_box_here"] (defScope s__law_word) := ⟨rfl, rfl, rfl, by decide +kernel, rfl, by decide +kernel, by decide +kernel⟩
section
variable {P : Program} {w : World} {K : PySem.W.Frag} {mg : Str → Option Value} {base : Heap}
theorem fn__law_word (T : Tx K mg)  {fd : FuncData} (F : FunD K d__law_word.name d__law_word.qual d__law_word.params d__law_word.body d__law_word.scope (d__law_word.dvs K) (d__law_word.kws K) (He.fAd K d__law_word.at_) fd) : FnOk P w K mg base CX0 2 (He.fAd K d__law_word.at_) fd ["_law_box_here"] sp_word := by
  refine F.ok sc__law_word (fun vs H Q E h => ?_) (fun cdv A outer s H vs Q E hr h => ?_)
  · exact lenOf h
  · have hu := hu_of hr
    have hu64 := hr.units
    have sz : 100000 ≤ sizeLine := by decide
    have C__law_take := cal__law_take (P := P) (w := w) (base := base) T
    refine ⟨_, PSs.nox (pss_cons (ps_set (i := 1) sc__law_word.nd rfl (Or.inr rfl) pe_str)
      (pss_cons (ps_set (i := 2) sc__law_word.nd rfl (Or.inl rfl) (pe_join pe_str (pe_lc (own := [("_law_k", 5)]) (g := gName 5) (tt := tYes) rfl sc__law_word.nd (pi_range1 rfl T.f_range (pa_cons (C8.pe_c C__law_take hr (by decide) rfl (pa_cons (pv 0) (pa_cons pe_int pa_nil))) pa_nil)) (blkOk_by (N := ["_law_box_here", "_law_letters", "_law_word_here", "_law_at", "_law_some", "_law_k"]) (sc := defScope s__law_word) (by decide +kernel)) (fun _ _ _ _ _ => (pg_name (i := 5) sc__law_word.nd rfl (Or.inl rfl))) (fun _ _ _ _ _ => pts_nil) (fun _ _ _ _ _ => (pe_ix ix_str (pv 1) (C8.pe_c C__law_take hr (by decide) rfl (pa_cons (pv 0) (pa_cons pe_int pa_nil))) (fun _ _ => rfl))))))
      (Evl.pss_cut (ps_if (PW.pt (pw_and (pt_cmpR op_eq (C8.pe_c C__law_take hr (by decide) rfl (pa_cons (pv 0) (pa_cons pe_int pa_nil))) pe_int (nomark _)) (pw_and1 (pt_cmpR op_ne (pv 2) pe_str (nomark _))))) (pss_cons (ps_set (i := 3) sc__law_word.nd rfl (Or.inl rfl) (C8.pe_c C__law_take hr (by decide) rfl (pa_cons (pv 0) (pa_cons (pe_callB call_len_str rfl T.f_len PySem.boot_len (pa_cons (pv 2) pa_nil)) pa_nil))))
      (pss_one (ps_set (i := 2) sc__law_word.nd rfl (Or.inl rfl) (pe_op op_add_str (pe_op op_add_str (pe_slice sl_str (pv 2) po_none (po_some (pv 3))) (pe_ix ix_str pe_str (C8.pe_c C__law_take hr (by decide) rfl (pa_cons (pv 0) (pa_cons pe_int pa_nil))) (fun _ _ => rfl))) (pe_slice sl_str (pv 2) (po_some (pe_op op_add (pv 3) pe_int)) po_none))))) pss_nil)
      (pss_cons (ps_set (i := 4) sc__law_word.nd rfl (Or.inl rfl) (pe_lst (pa_cons pe_str (pa_cons pe_str (pa_cons pe_str (pa_cons pe_str (pa_cons pe_str (pa_cons pe_str (pa_cons pe_str (pa_cons pe_str (pa_cons pe_str (pa_cons pe_str (pa_cons pe_str (pa_cons pe_str pa_nil))))))))))))))
      (pss_one (ps_ret (pe_ifExp (pt_cmpR op_eq (C8.pe_c C__law_take hr (by decide) rfl (pa_cons (pv 0) (pa_cons pe_int pa_nil))) pe_int (nomark _)) (pe_ix ix_list (pv 4) (C8.pe_c C__law_take hr (by decide) rfl (pa_cons (pv 0) (pa_cons pe_int pa_nil))) (fun _ _ => rfl)) (pv 2)))))))), ?_⟩
    obtain ⟨_, p, N, rfl, hB, hN, q⟩ := h
    -- the word
    refine ⟨⟨_, rfl⟩, _, rfl, rfl, p, _, N, rfl, hB, by omega, by decide, by decide, fun r H1 r0 r1 B1 S1 => ?_⟩
    refine ⟨r, rfl, by omega, by omega, fun D hD => ?_⟩
    have npD : p ≠ D := by
      obtain ⟨_, _, _, hp, _⟩ := B1
      exact ne_of_none hp hD
    have D0 : H D = none := S1.free hD npD.symm
    refine lc_range (fun i H' => But p H H' ∧ Bx H' p (N + 1 + i) ∧ ∃ cs : List Nat, cs.length = i ∧ H' D = some (.lst ((cs.map one).map V.str))) ⟨S1.new hD, B1.same (Same.new hD), [], rfl, upd_same⟩ ?_ ?_
    · rintro i H2 hi ⟨S2, B2, cs, hcs, hL⟩
      refine ⟨rfl, ?_⟩
      unfold tYes
      refine iteT ⟨_, rfl, _, rfl, rfl, p, _, N + 1 + i, rfl, B2, by omega, by decide, by decide, fun u H3 u0 u1 B3 S3 => ?_⟩
      obtain ⟨c, _, hc⟩ := atI_mem (xs := (Str.ofString "abcdefghijklmnopqrstuvwxyz").cps.toList) u0 (by exact u1)
      refine ⟨_, _, c, rfl, rfl, by decide, hc, _, S3 _ _ hL npD.symm, ?_, ?_, ?_, cs ++ [c], by rw [List.length_append, hcs]; rfl, ?_⟩
      · rw [List.length_map, List.length_map, hcs]
        exact Nat.lt_of_lt_of_le hi (Nat.le_trans (by omega : r.toNat ≤ 9) (by decide))
      · exact (S2.tr S3).chg' D0
      · obtain ⟨x1, x2, x3, hp, h4⟩ := B3
        exact ⟨x1, x2, x3, by rw [upd_ne npD]; exact hp, h4⟩
      · rw [upd_same, List.map_append, List.map_append] <;> rfl
    · rintro H2 ⟨S2, B2, cs, hcs, hL⟩
      have hcl : cs.length ≤ 8 := by omega
      refine ⟨_, _, cs.map one, rfl, rfl, .inl (lst_sq hL), ?_, ?_⟩
      · rw [ones_len, List.length_map, show (Str.ofString "").length = 0 from rfl] <;> omega
      rw [show Txt.join (Str.ofString "") (cs.map one) = ⟨cs.toArray⟩ from join_ones cs]
      -- an exchanged letter
      have hz : (Str.mk cs.toArray).length = cs.length := by simp [Str.length]
      generalize hzz : (Str.mk cs.toArray) = z at *
      refine ⟨fun σ' H' => ∃ (z2 : Str) (at_ : Option V), σ' = [some (.ref p), some (.str "abcdefghijklmnopqrstuvwxyz"), some (.str z2), at_, none, none] ∧ z2.length ≤ 50 ∧ Bx H' p (N + 15) ∧ But p H H', ?_, ?_⟩
      · refine ⟨_, rfl, rfl, p, _, _, rfl, B2, by omega, by decide, by decide, fun u H3 u0 u1 B3 S3 => ⟨rfl, _, rfl, ?_⟩⟩
        refine ite2 (fun _ => ?_) (fun _ => ?_)
        · refine ⟨_, rfl, rfl, _, rfl, ?_⟩
          by_cases ze : z = ""
          · rw [decide_eq_true (congrArg V.str ze)]
            exact iteF ⟨z, none, rfl, by omega, B3.mono (by omega), S2.tr S3⟩
          · rw [decide_eq_false (fun e => ze (V.str.inj e))]
            refine iteT ?_
            have zp : 0 < z.length := by
              cases h0 : z.length with
              | zero => exact (ze (str_empty h0)).elim
              | succ n => omega
            refine ⟨_, rfl, _, rfl, _, rfl, by omega, rfl, p, _, _, rfl, B3, by omega, by omega, by omega, fun y H4 y0 y1 B4 S4 => ?_⟩
            refine ⟨_, rfl, _, rfl, _, rfl, z, rfl, by omega, _, rfl, rfl, p, _, _, rfl, B4, by omega, by decide, by decide, fun x H5 x0 x1 B5 S5 => ?_⟩
            obtain ⟨c, _, hc⟩ := atI_mem (xs := (Str.ofString "AZ0 _-+.\n{`").cps.toList) x0 (by exact x1)
            have l1 := cutS_length z none (some y)
            have l2 := cutS_length z (some (y + 1)) none
            have l3 : (Str.mk #[c]).length = 1 := rfl
            refine ⟨_, _, c, rfl, rfl, by decide, hc, _, _, rfl, rfl, by omega, _, rfl, _, rfl, _, _, rfl, rfl, _, rfl, z, rfl, by omega, _, _, rfl, rfl, ?_, ?_⟩
            · rw [str_app]
              omega
            · refine ⟨_, _, rfl, ?_, B5.mono (by omega), ((S2.tr S3).tr S4).tr S5⟩
              rw [str_app, str_app]
              omega
        · exact iteF ⟨z, none, rfl, by omega, B3.mono (by omega), S2.tr S3⟩
      · rintro σ' H3 ⟨z2, at_, rfl, hz2, B3, S3⟩
        refine ⟨by decide, fun L hL => ?_⟩
        have npL : p ≠ L := by
          obtain ⟨_, _, _, hp, _⟩ := B3
          exact ne_of_none hp hL
        have S4 := S3.new (o := .lst WDS) hL
        refine ⟨_, rfl, rfl, p, _, _, rfl, B3.same (Same.new hL), by omega, by decide, by decide, fun u H5 u0 u1 B5 S5 => ⟨rfl, _, rfl, ?_⟩⟩
        refine ite2 (fun _ => ?_) (fun _ => ?_)
        · refine ⟨_, rfl, _, rfl, rfl, p, _, _, rfl, B5, by omega, by decide, by decide, fun x H6 x0 x1 B6 S6 => ?_⟩
          have hL6 : H6 L = some (.lst WDS) := S6 _ _ (S5 _ _ upd_same npL.symm) npL.symm
          obtain ⟨v, hv, hc⟩ := atI_mem (xs := WDS) x0 (by exact x1)
          refine ⟨L, _, _, v, rfl, rfl, lst_sq hL6, hc, ?_⟩
          obtain ⟨y, rfl, hy⟩ := WDS_str v hv
          exact q y H6 hy (B6.mono (by omega)) ((S4.tr S5).tr S6)
        · exact ⟨_, rfl, q z2 H5 (by omega) (B5.mono (by omega)) (S4.tr S5)⟩
theorem cal__law_word (T : Tx K mg)  : C8.Cal P w K mg base 2 "_law_word" sp_word [] := by
  obtain ⟨fd, F⟩ := T.d__law_word
  exact ⟨_, fd, ["_law_box_here"], [], fn__law_word T  F, T.g__law_word, F.kp, FunD.bindsN (ps := ["_law_box_here"]) F (fun _ _ _ _ _ _ us hl => match us, hl with | [_], _ => rfl), .nil⟩

end
end G
namespace G
open PySem PySem.Spec PyProof.Rows L2
theorem sc__law_number : FnScope ["_law_box_here"] ["_law_box_here"] (defScope s__law_number) := ⟨rfl, rfl, rfl, by decide +kernel, rfl, by decide +kernel, by decide +kernel⟩
section
variable {P : Program} {w : World} {K : PySem.W.Frag} {mg : Str → Option Value} {base : Heap}
theorem fn__law_number (T : Tx K mg)  {fd : FuncData} (F : FunD K d__law_number.name d__law_number.qual d__law_number.params d__law_number.body d__law_number.scope (d__law_number.dvs K) (d__law_number.kws K) (He.fAd K d__law_number.at_) fd) : FnOk P w K mg base CX0 2 (He.fAd K d__law_number.at_) fd ["_law_box_here"] sp_number := by
  refine F.ok sc__law_number (fun vs H Q E h => ?_) (fun cdv A outer s H vs Q E hr h => ?_)
  · exact lenOf h
  · have hu := hu_of hr
    have hu64 := hr.units
    have sz : 100000 ≤ sizeLine := by decide
    have C__law_take := cal__law_take (P := P) (w := w) (base := base) T
    refine ⟨_, PSs.nox (pss_one (ps_ret (pe_ix ix_list (pe_lst (pa_cons (pe_op op_sub (C8.pe_c C__law_take hr (by decide) rfl (pa_cons (pv 0) (pa_cons pe_int pa_nil))) pe_int) (pa_cons (pe_op op_add (pe_op op_mul (C8.pe_c C__law_take hr (by decide) rfl (pa_cons (pv 0) (pa_cons (pe_op op_pow pe_int pe_int) pa_nil))) (pe_op op_pow pe_int pe_int)) pe_int) (pa_cons (pe_op op_sub pe_int (pe_op op_pow pe_int pe_int)) pa_nil)))) (C8.pe_c C__law_take hr (by decide) rfl (pa_cons (pv 0) (pa_cons pe_int pa_nil))) (fun _ _ => rfl)))), ?_⟩
    obtain ⟨_, p, N, rfl, hB, hN, q⟩ := h
    refine ⟨_, rfl, rfl, p, _, N, rfl, hB, by omega, by decide, by decide, fun r1 H1 r10 r11 B1 S1 => ?_⟩
    refine ⟨_, _, rfl, rfl, _, rfl, _, _, rfl, rfl, ⟨by decide, by decide, by decide⟩, rfl, p, _, _, rfl, B1, by omega, by decide, by decide, fun r2 H2 r20 r21 B2 S2 => ?_⟩
    have r22 : r2 < 1000000000 := r21
    refine ⟨_, _, rfl, rfl, ⟨by decide, by decide, by decide⟩, _, _, rfl, rfl, .inl ⟨by omega, by omega⟩, _, _, rfl, rfl, ?_⟩
    refine ⟨_, _, rfl, rfl, ⟨by decide, by decide, by decide⟩, _, _, rfl, rfl, (by show 3 ≤ sizeLine; decide), fun L hL => ?_⟩
    have npL : p ≠ L := by
      obtain ⟨_, _, _, hp, _⟩ := B2
      exact ne_of_none hp hL
    refine ⟨_, rfl, rfl, p, _, _, rfl, B2.same (Same.new hL), by omega, by decide, by decide, fun r3 H3 r30 r31 B3 S3 => ?_⟩
    have hL3 := S3 _ _ upd_same npL.symm
    obtain ⟨v, hv, hc⟩ := atI_mem (xs := [V.int (r1 - 4), V.int (r2 * 10 ^ (50 : Int).toNat + 1), V.int (0 - 10 ^ (59 : Int).toNat)]) r30 (by exact r31)
    refine ⟨L, _, _, v, rfl, rfl, lst_sq hL3, hc, ?_⟩
    have fin := fun z => q z H3 (B3.mono (by omega)) (((S1.tr S2).new hL).tr S3)
    simp only [List.mem_cons, List.not_mem_nil, or_false] at hv
    rcases hv with rfl | rfl | rfl <;> exact fin _
theorem cal__law_number (T : Tx K mg)  : C8.Cal P w K mg base 2 "_law_number" sp_number [] := by
  obtain ⟨fd, F⟩ := T.d__law_number
  exact ⟨_, fd, ["_law_box_here"], [], fn__law_number T  F, T.g__law_number, F.kp, FunD.bindsN (ps := ["_law_box_here"]) F (fun _ _ _ _ _ _ us hl => match us, hl with | [_], _ => rfl), .nil⟩

end
end G
namespace G
open PySem PySem.Spec PyProof.Rows L2
theorem sc__law_any : FnScope ["_law_box_here", "_law_some"] ["_law_box_here"] (defScope s__law_any) := ⟨rfl, rfl, rfl, by decide +kernel, rfl, by decide +kernel, by decide +kernel⟩
section
variable {P : Program} {w : World} {K : PySem.W.Frag} {mg : Str → Option Value} {base : Heap}
theorem fn__law_any (T : Tx K mg)  {fd : FuncData} (F : FunD K d__law_any.name d__law_any.qual d__law_any.params d__law_any.body d__law_any.scope (d__law_any.dvs K) (d__law_any.kws K) (He.fAd K d__law_any.at_) fd) : FnOk P w K mg base CX0 5 (He.fAd K d__law_any.at_) fd ["_law_box_here"] (sp_any K) := by
  refine F.ok sc__law_any (fun vs H Q E h => ?_) (fun cdv A outer s H vs Q E hr h => ?_)
  · exact lenOf h
  · have hu := hu_of hr
    have hu64 := hr.units
    have sz : 100000 ≤ sizeLine := by decide
    have C__law_take := cal__law_take (P := P) (w := w) (base := base) T
    have M_Place := mk_Place1 (P := P) (w := w) (base := base) T
    obtain ⟨fdK, gK, FK, kb⟩ := mk_PlaceK (P := P) (w := w) (base := base) T
    refine ⟨_, PSs.nox (pss_cons (ps_set (i := 1) sc__law_any.nd rfl (Or.inl rfl) (pe_lst (pa_cons pe_non (pa_cons pe_bl (pa_cons pe_bl (pa_cons (pe_lst pa_nil) (pa_cons (pe_lst (pa_cons pe_str pa_nil)) (pa_cons (pe_tup (pa_cons pe_str pa_nil)) (pa_cons pe_dnewK (pa_cons (pe_disp (pps_cons pe_str pe_int pps_nil) rfl rfl (by simp) (by decide)) (pa_cons (C8.pe_mk M_Place hr (by decide) rfl (pa_cons pe_str pa_nil)) (pa_cons (pe_makeK0 T.mk_Place FK hr rfl T.g_Place kb pass0 (pk_cons pe_int pk_nil)) pa_nil))))))))))))
      (pss_one (ps_ret (pe_ix ix_list (pv 1) (C8.pe_c C__law_take hr (by decide) rfl (pa_cons (pv 0) (pa_cons pe_int pa_nil))) (fun _ _ => rfl))))), ?_⟩
    obtain ⟨_, p, N, rfl, hB, hN, q⟩ := h
    refine ⟨by decide, fun a1 n1 => ⟨by decide, fun a2 n2 => ⟨by decide, fun a3 n3 => fun a4 n4 => fun a5 n5 => ⟨upd_same, [(.inr "a", .int 1)], rfl, by decide, fun x1 d1 nx1 nd1 ne1 => ⟨rfl, x1, d1, "n", 0, rfl, upd_same, ⟨.inr (by decide +kernel), by decide +kernel, by decide⟩, fun H6 k6 h6 => ⟨rfl, rfl, rfl, fun x2 d2 nx2 nd2 ne2 => ⟨rfl, x2, d2, "", 2, rfl, upd_same, ⟨.inl rfl, by decide +kernel, by decide⟩, fun H7 k7 h7 => ⟨rfl, (by show 10 ≤ sizeLine; decide), fun L nL => ?_⟩⟩⟩⟩⟩⟩⟩⟩
    have s1 := Same.new (o := .lst []) n1
    have s2 := Same.new (o := .lst [.str "a"]) n2
    have s3 := Same.new (o := .tup [.str "a"]) n3
    have s4 := Same.new (o := .dK []) n4
    have s5 := Same.new (o := .dK []) n5
    have e6 := made_same nx1 nd1 k6
    have s6 : Same (upd (upd (upd (upd H a1 (.lst [])) a2 (.lst [.str "a"])) a3 (.tup [.str "a"])) a4 (.dK [])) H6 := Same.tr (Same.chg s5 n5) e6
    have h5 : H6 a5 = some (.dK [(.inr "a", .int 1)]) := e6 _ _ upd_same
    have s7 := made_same nx2 nd2 k7
    have s8 := Same.tr s7 (Same.new (o := .lst [.non, .bl true, .bl false, .ref a1, .ref a2, .ref a3, .ref a4, .ref a5, .ref x1, .ref x2]) nL)
    have sA := Same.tr s6 s8
    have sH : Same H _ := Same.tr s1 (Same.tr s2 (Same.tr s3 (Same.tr s4 sA)))
    have npL : p ≠ L := by
      obtain ⟨_, _, _, hp, _⟩ := hB
      exact ne_of_none (Same.tr s1 (Same.tr s2 (Same.tr s3 (Same.tr s4 (Same.tr s6 s7)))) _ _ hp) nL
    refine ⟨_, rfl, _, rfl, rfl, p, _, _, rfl, hB.same sH, by omega, by decide, by decide, fun r H9 r0 r1 B9 S9 => ?_⟩
    have hL9 := S9 _ _ upd_same npL.symm
    obtain ⟨v, hv, hc⟩ := atI_mem (xs := [V.non, .bl true, .bl false, .ref a1, .ref a2, .ref a3, .ref a4, .ref a5, .ref x1, .ref x2]) r0 (by exact r1)
    refine ⟨L, _, _, v, rfl, rfl, lst_sq hL9, hc, ?_⟩
    have fin : Ask K H9 v → (∀ y, v ≠ .str y) → { nx := fun _ H' => Q .non H', rt := Q : Ends }.rt v H9 := fun ha hn => q v H9 ⟨ha, fun y e => (hn y e).elim⟩ (B9.mono (by omega)) ((But.of sH).tr S9)
    obtain ⟨_, _, _, hp, _⟩ := hB
    have ne : ∀ {b : Addr}, H b = none → b ≠ p := fun hb e => by rw [e] at hb; rw [hb] at hp; exact nomatch hp
    have g1 : H9 a1 = some (.lst []) := S9 _ _ (Same.tr s2 (Same.tr s3 (Same.tr s4 sA)) _ _ upd_same) (ne n1)
    have g2 : H9 a2 = some (.lst [.str "a"]) := S9 _ _ (Same.tr s3 (Same.tr s4 sA) _ _ upd_same) (ne (Same.un s1 n2))
    have g3 : H9 a3 = some (.tup [.str "a"]) := S9 _ _ (Same.tr s4 sA _ _ upd_same) (ne (Same.un s1 (Same.un s2 n3)))
    have n4' := Same.un s1 (Same.un s2 (Same.un s3 n4))
    have n5' := Same.un s1 (Same.un s2 (Same.un s3 (Same.un s4 n5)))
    have n6' := Same.un s1 (Same.un s2 (Same.un s3 (Same.un s4 (Same.un (Same.chg s5 n5) nx1))))
    have n7' := Same.un s1 (Same.un s2 (Same.un s3 (Same.un s4 (Same.un s6 nx2))))
    have g4 : H9 a4 = some (.dK []) := S9 _ _ (sA _ _ upd_same) (ne n4')
    have g5 : H9 a5 = _ := S9 _ _ (s8 _ _ h5) (ne n5')
    have g6 : H9 x1 = _ := S9 _ _ (s8 _ _ h6) (ne n6')
    have g7 : H9 x2 = _ := S9 _ _ (Same.new nL _ _ h7) (ne n7')
    simp only [List.mem_cons, List.not_mem_nil, or_false] at hv
    rcases hv with rfl | rfl | rfl | rfl | rfl | rfl | rfl | rfl | rfl | rfl
    · exact fin Ask.non (fun _ e => nomatch e)
    · exact fin (Ask.bl _) (fun _ e => nomatch e)
    · exact fin (Ask.bl _) (fun _ e => nomatch e)
    · exact fin (Ask.lst g1) (fun _ e => nomatch e)
    · exact fin (Ask.lst g2) (fun _ e => nomatch e)
    · exact fin (Ask.tup g3) (fun _ e => nomatch e)
    · exact fin (Ask.dct g4) (fun _ e => nomatch e)
    · exact fin (Ask.dct g5) (fun _ e => nomatch e)
    · exact fin (Ask.ins T.cl_Place T.i_Place g6) (fun _ e => nomatch e)
    · exact fin (Ask.ins T.cl_Place T.i_Place g7) (fun _ e => nomatch e)
theorem cal__law_any (T : Tx K mg)  : C8.Cal P w K mg base 5 "_law_any" (sp_any K) [] := by
  obtain ⟨fd, F⟩ := T.d__law_any
  exact ⟨_, fd, ["_law_box_here"], [], fn__law_any T  F, T.g__law_any, F.kp, FunD.bindsN (ps := ["_law_box_here"]) F (fun _ _ _ _ _ _ us hl => match us, hl with | [_], _ => rfl), .nil⟩

end
end G
namespace G
open PySem PySem.Spec PyProof.Rows L2
theorem sc__law_name_due : FnScope ["_law_thing", "_law_sign"] ["_law_thing"] (defScope s__law_name_due) := ⟨rfl, rfl, rfl, by decide +kernel, rfl, by decide +kernel, by decide +kernel⟩
section
variable {P : Program} {w : World} {K : PySem.W.Frag} {mg : Str → Option Value} {base : Heap}
theorem fn__law_name_due (T : Tx K mg)  {fd : FuncData} (F : FunD K d__law_name_due.name d__law_name_due.qual d__law_name_due.params d__law_name_due.body d__law_name_due.scope (d__law_name_due.dvs K) (d__law_name_due.kws K) (He.fAd K d__law_name_due.at_) fd) : FnOk P w K mg base CX0 1 (He.fAd K d__law_name_due.at_) fd ["_law_thing"] (sp_is_name K) := by
  refine F.ok sc__law_name_due (fun vs H Q E h => ?_) (fun cdv A outer s H vs Q E hr h => ?_)
  · exact lenOf h
  · have hu := hu_of hr
    have hu64 := hr.units
    have sz : 100000 ≤ sizeLine := by decide
    refine ⟨_, PSs.nox (pss_cons (ps_if (PW.pt (pw_or (pt_not (pt_val (pe_callB call_isi rfl T.f_isinstance PyProof.Rows.boot_isinstance (pa_cons (pv 0) (pa_cons (pe_bltn (v := .ty "str") rfl T.f_str PyProof.Rows.boot_str rfl) pa_nil))))) (pw_or1 (pt_not (pt_chain op_le op_le pe_int (pe_callB call_len_str rfl T.f_len PySem.boot_len (pa_cons (pv 0) pa_nil)) pe_int))))) (pss_one (ps_ret pe_bl)) pss_nil)
      (pss_one (ps_ret (pe_cmpR (op_eqNil hu64) (pe_lc (own := [("_law_sign", 1)]) (g := gName 1)  rfl sc__law_name_due.nd (pi_str (pv 0)) (blkOk_by (N := ["_law_thing", "_law_sign"]) (sc := defScope s__law_name_due) (by decide +kernel)) (fun _ _ _ _ _ => (pg_name (i := 1) sc__law_name_due.nd rfl (Or.inl rfl))) (fun _ _ _ _ _ => (pts_one (pt_not (pt_chain op_le_str op_le_str pe_str (pv 1) pe_str)))) (fun _ _ _ _ _ => (pv 1))) (pe_lst pa_nil) (nomark _))))), ?_⟩
    obtain ⟨_, v, rfl, ⟨⟨t, ty, _, _, k3⟩, hx⟩, q⟩ := h
    refine ⟨_, rfl, _, _, t, _, _, rfl, .ty _, ty, k3, _, rfl, ?_⟩
    cases v with
    | str x =>
      refine iteF ?_
      have hl := hx x rfl
      have hl2 : x.length ≤ sizeLine := Nat.le_trans hl (by decide)
      refine ⟨_, rfl, _, rfl, hl2, _, _, rfl, rfl, _, rfl, ?_⟩
      by_cases z1 : (1 : Int) ≤ (x.length : Int)
      · rw [decide_eq_true z1]
        refine iteT ?_
        refine ⟨_, _, rfl, rfl, _, rfl, ?_⟩
        by_cases z2 : (x.length : Int) ≤ 6
        · rw [decide_eq_true z2]
          refine iteF ?_
          refine ⟨_, rfl, _, rfl, fun D hD => lc_filt walk_str (fun i => .str ⟨#[x.cps.getD i 0]⟩) (fun i => .str ⟨#[x.cps.getD i 0]⟩) (fun i => !(decide (97 ≤ x.cps.getD i 0) && decide (x.cps.getD i 0 ≤ 122))) ?_ ?_ hD ?_ ?_ ?_ ?_ ?_⟩
          · rintro i H1 y H2 hi ⟨e, c, hc, rfl⟩
            exact ⟨e, by rw [Array.getD_eq_getD_getElem?, hc]; rfl⟩
          · exact hl
          · intro _ _; trivial
          · intro y; rfl
          · intro i H1 hi s1 Q' hq
            refine ⟨_, rfl, _, _, rfl, rfl, _, rfl, ?_⟩
            rw [show (!decide ((Str.mk #[x.cps.getD i 0]).cps.toList < (Str.ofString "a").cps.toList)) = decide (97 ≤ x.cps.getD i 0) from le_sign _ _]
            by_cases y1 : 97 ≤ x.cps.getD i 0
            · rw [decide_eq_true y1]
              refine iteT ⟨_, _, rfl, rfl, _, rfl, ?_⟩
              rw [show (!decide ((Str.ofString "z").cps.toList < (Str.mk #[x.cps.getD i 0]).cps.toList)) = decide (x.cps.getD i 0 ≤ 122) from le_sign _ _]
              have := hq H1 Same.rfl'
              rw [decide_eq_true y1, Bool.true_and] at this
              exact this
            · rw [decide_eq_false y1]
              have := hq H1 Same.rfl'
              rw [decide_eq_false y1, Bool.false_and] at this
              exact iteF ⟨_, rfl, this⟩
          · intro i H1 hi _ s1 Q' hq
            exact ⟨_, rfl, hq H1 Same.rfl'⟩
          · intro H' s1 hL
            refine ⟨by decide, fun E hE => ?_⟩
            have nDE : D ≠ E := ne_of_none hL hE
            refine ⟨D, E, _, rfl, rfl, lst_sq (by rw [upd_ne nDE]; exact hL), lst_sq upd_same, ?_⟩
            rw [due_name x z1 z2]
            exact q _ (Same.new' s1 hE)
        · rw [decide_eq_false z2]
          refine iteT ?_
          have e : nameV (.str x) = false := by
            show nameS x = false
            unfold nameS
            rw [decide_eq_false z2, Bool.and_false, Bool.false_and]
          rw [e] at q
          exact q H Same.rfl'
      · rw [decide_eq_false z1]
        walk_at "s"
        have e : nameV (.str x) = false := by
          show nameS x = false
          unfold nameS
          rw [decide_eq_false z1, Bool.false_and, Bool.false_and]
        rw [e] at q
        exact q H Same.rfl'
    | _ => exact iteT (iteT (q H Same.rfl'))
theorem cal__law_name_due (T : Tx K mg)  : C8.Cal P w K mg base 1 "_law_name_due" (sp_is_name K) [] := by
  obtain ⟨fd, F⟩ := T.d__law_name_due
  exact ⟨_, fd, ["_law_thing"], [], fn__law_name_due T  F, T.g__law_name_due, F.kp, FunD.bindsN (ps := ["_law_thing"]) F (fun _ _ _ _ _ _ us hl => match us, hl with | [_], _ => rfl), .nil⟩

end
end G
namespace G
open PySem PySem.Spec PyProof.Rows L2
theorem sc__law_right : FnScope ["_law_thing", "_law_one", "_law_other", "_law_whole", "_law_due", "_law_told"] ["_law_thing", "_law_one", "_law_other"] (defScope s__law_right) := ⟨rfl, rfl, rfl, by decide +kernel, rfl, by decide +kernel, by decide +kernel⟩
section
variable {P : Program} {w : World} {K : PySem.W.Frag} {mg : Str → Option Value} {base : Heap}
theorem fn__law_right (T : Tx K mg)  {fd : FuncData} (F : FunD K d__law_right.name d__law_right.qual d__law_right.params d__law_right.body d__law_right.scope (d__law_right.dvs K) (d__law_right.kws K) (He.fAd K d__law_right.at_) fd) : FnG P w K mg base CX0 3 (He.fAd K d__law_right.at_) fd ["_law_thing", "_law_one", "_law_other"] (sp_right K) := by
  refine FunD.okG F sc__law_right (fun vs H Q E h => ?_) (fun cdv A outer s H vs Q E hgu hr h => ?_)
  · exact lenOf h
  · have hu := hu_of hr
    have hu64 := hr.units
    have sz : 100000 ≤ sizeLine := by decide
    have C_is_integer := cal_is_integer (P := P) (w := w) (base := base) T
    have C_is_name := cal_is_name (P := P) (w := w) (base := base) T
    have C_is_mark := cal_is_mark (P := P) (w := w) (base := base) T
    have C__law_name_due := cal__law_name_due (P := P) (w := w) (base := base) T
    have K_is_name := kw_is_name (P := P) (w := w) (base := base) T
    have K_is_mark := kw_is_mark (P := P) (w := w) (base := base) T
    refine ⟨_, PSs.nox (Evl.pss_cut (ps_set (i := 3) sc__law_right.nd rfl (Or.inl rfl) (pe_and (pe_callB call_isi rfl T.f_isinstance PyProof.Rows.boot_isinstance (pa_cons (pv 0) (pa_cons (pe_bltn (v := .ty "int") rfl T.f_int PyProof.Rows.boot_int rfl) pa_nil))) (pe_one (pe_not (pe_callB call_isi rfl T.f_isinstance PyProof.Rows.boot_isinstance (pa_cons (pv 0) (pa_cons (pe_bltn (v := .ty "bool") rfl T.f_bool PyProof.Rows.boot_bool rfl) pa_nil)))))))
      (Evl.pss_cut (ps_set (i := 4) sc__law_right.nd rfl (Or.inl rfl) (pe_lst (pa_cons (pe_and (pv 3) (pe_one (pe_chain op_le op_le (pv 1) (pv 0) (pv 2)))) (pa_cons (C8.pe_c C__law_name_due hr (by decide) rfl (pa_cons (pv 0) pa_nil)) pa_nil))))
      (Evl.pss_cut (ps_expr (pe_bm PySem.F.plainAttrs_list PySem.F.slot_list_append PySem.F.type_list_append mt_append (pv 4) (pa_cons (pe_and (pe_ix ix_list (pv 4) pe_int (fun _ _ => rfl)) (pe_one (pe_cmpR op_notIn_seq (pv 0) (pe_lst (pa_cons pe_str (pa_cons pe_str (pa_cons pe_str (pa_cons pe_str (pa_cons pe_str (pa_cons pe_str (pa_cons pe_str pa_nil)))))))) rfl))) pa_nil)))
      (Evl.pss_cut (ps_set (i := 5) sc__law_right.nd rfl (Or.inl rfl) (pe_lst (pa_cons (C8.pe_c C_is_integer hr (by decide) rfl (pa_cons (pv 0) (pa_cons (pv 1) (pa_cons (pv 2) pa_nil)))) (pa_cons (pe_k0 K_is_name hr (by decide) rfl (pk_cons (pv 0) pk_nil)) (pa_cons (pe_k0 K_is_mark hr (by decide) rfl (pk_cons (pv 0) pk_nil)) pa_nil)))))
      (pss_one (ps_ret (pe_and (pe_cmpR op_eq (pe_callB (call_reprD hgu hu64) rfl T.f_repr PyProof.Rows.boot_repr (pa_cons (pv 5) pa_nil)) (pe_callB (call_reprD hgu hu64) rfl T.f_repr PyProof.Rows.boot_repr (pa_cons (pv 4) pa_nil)) (nomark _)) (pe_and (pe_cmpR op_eq (C8.pe_c C_is_name hr (by decide) rfl (pa_cons (pv 0) pa_nil)) (pe_ix ix_list (pv 4) pe_int (fun _ _ => rfl)) (nomark _)) (pe_one (pe_cmpR op_eq (C8.pe_c C_is_mark hr (by decide) rfl (pa_cons (pv 0) pa_nil)) (pe_ix ix_list (pv 4) pe_int (fun _ _ => rfl)) (nomark _))))))))))), ?_⟩
    obtain ⟨_, v, a, b, rfl, ov, q⟩ := h
    obtain ⟨⟨t, ty, k1, k2, k3⟩, _⟩ := id ov
    -- whole
    refine ⟨fun σ' H' => σ' = [some v, some (.int a), some (.int b), some (.bl (isI v && !isB v)), none, none] ∧ H' = H, ?_, ?_⟩
    · refine ⟨_, rfl, _, _, t, _, _, rfl, .ty _, ty, k1, _, rfl, ?_⟩
      cases e : isI v with
      | false => exact iteF ⟨by rw [Bool.false_and]; rfl, rfl⟩
      | true => exact iteT ⟨_, rfl, _, _, t, _, _, rfl, .ty _, ty, k2, _, rfl, by rw [Bool.true_and]; rfl, rfl⟩
    rintro σ' H' ⟨rfl, rfl⟩
    -- due
    refine ⟨fun σ' H1 => ∃ L, σ' = [some v, some (.int a), some (.int b), some (.bl (isI v && !isB v)), some (.ref L), none] ∧ Same H' H1 ∧ H' L = none ∧ H1 L = some (.lst [.bl (inR v a b), .bl (nameV v)]), ?_, ?_⟩
    · have nx : ∀ x, x = inR v a b → (tCall (sp_is_name K) [] C8.E0 (tCons (tVar 0) tNil)) [some v, some (.int a), some (.int b), some (.bl (isI v && !isB v)), none, none] H' (fun x2 H2 => [V.bl x, x2].length ≤ sizeLine ∧ ∀ p, H2 p = none → ∃ L, List.set [some v, some (.int a), some (.int b), some (.bl (isI v && !isB v)), none, none] 4 (some (.ref p)) = [some v, some (.int a), some (.int b), some (.bl (isI v && !isB v)), some (.ref L), none] ∧ Same H' (upd H2 p (.lst [.bl x, x2])) ∧ H' L = none ∧ (upd H2 p (.lst [.bl x, x2])) L = some (.lst [.bl (inR v a b), .bl (nameV v)])) := by
        intro x ex
        refine ⟨_, rfl, rfl, v, rfl, ov, fun H2 s2 => ⟨(by show 2 ≤ sizeLine; decide), fun p hp => ⟨p, rfl, Same.new' s2 hp, Same.un s2 hp, by rw [upd_same, ex]⟩⟩⟩
      refine ⟨_, rfl, _, rfl, ?_⟩
      cases v with
      | int i =>
        refine iteT ⟨_, rfl, _, rfl, _, _, rfl, rfl, _, rfl, ?_⟩
        by_cases z : a ≤ i
        · rw [decide_eq_true z]
          refine iteT ⟨_, rfl, _, _, rfl, rfl, ?_⟩
          exact nx _ (by rw [inR_int, decide_eq_true z, Bool.true_and])
        · rw [decide_eq_false z]
          exact iteF (nx _ (by rw [inR_int, decide_eq_false z, Bool.false_and]))
      | bl y => exact iteF (nx _ rfl)
      | _ => exact iteF (nx _ rfl)
    rintro σ' H1 ⟨L, rfl, s1, nL, hL⟩
    have notThere : ∀ {x : Addr} {o : HO}, H' x = some o → x = L → False := fun hx e => by rw [e, nL] at hx; exact nomatch hx
    -- due's third
    refine ⟨fun σ' H2 => σ' = [some v, some (.int a), some (.int b), some (.bl (isI v && !isB v)), some (.ref L), none] ∧ Same H' H2 ∧ H2 L = some (.lst [.bl (inR v a b), .bl (nameV v), .bl (markV v)]), ?_, ?_⟩
    · refine ⟨_, rfl, .inl ⟨rfl, _, lst_sq hL⟩, _, rfl, L, _, _, _, rfl, rfl, lst_sq hL, rfl, _, rfl, ?_⟩
      cases e : nameV v with
      | false =>
        refine iteF ⟨L, _, _, rfl, rfl, hL, (by show 2 < sizeLine; decide), rfl, ?_, ?_⟩
        · intro x o hx
          by_cases n : x = L
          · exact (notThere hx n).elim
          · rw [upd_ne n]
            exact s1 x o hx
        · rw [upd_same, markV, e]
          rfl
      | true =>
        cases v with
        | str x =>
          refine iteT ⟨_, rfl, (by show 7 ≤ sizeLine; decide), fun M hM => ⟨M, _, rfl, .inl (lst_sq upd_same), rfl, rfl, ?_⟩⟩
          have nLM : L ≠ M := ne_of_none hL hM
          refine ⟨L, _, _, rfl, rfl, (by rw [upd_ne nLM]; exact hL), (by show 2 < sizeLine; decide), rfl, ?_, ?_⟩
          · intro y o hy
            by_cases n : y = L
            · exact (notThere hy n).elim
            · rw [upd_ne n]
              exact Same.new' s1 hM y o hy
          · rw [upd_same, markV, e]
            rfl
        | _ => exact nomatch e
    rintro σ' H2 ⟨rfl, s2, hL2⟩
    -- told
    refine ⟨fun σ' H3 => ∃ M, σ' = [some v, some (.int a), some (.int b), some (.bl (isI v && !isB v)), some (.ref L), some (.ref M)] ∧ Same H2 H3 ∧ H3 M = some (.lst [.bl (inR v a b), .bl (nameV v), .bl (markV v)]), ?_, ?_⟩
    · refine ⟨_, rfl, _, rfl, _, rfl, rfl, v, a, b, rfl, (ov.same s2).1, _, rfl, rfl, rfl, rfl, v, rfl, ov.same s2, fun H3 s3 => ⟨_, rfl, rfl, rfl, rfl, v, rfl, (ov.same s2).same s3, fun H4 s4 => ⟨(by show 3 ≤ sizeLine; decide), fun M hM => ⟨M, rfl, Same.new' (Same.tr s3 s4) hM, upd_same⟩⟩⟩⟩
    rintro σ' H3 ⟨M, rfl, s3, hM⟩
    have hL3 := s3 _ _ hL2
    have o3 := (ov.same s2).same s3
    -- the answer
    refine ⟨_, rfl, M, _, rfl, bools3 (lst_sq hM), rfl, rfl, (by show 1 ≤ 60; decide), shown3 _ _ _, _, rfl, L, _, rfl, bools3 (lst_sq hL3), rfl, rfl, (by show 1 ≤ 60; decide), shown3 _ _ _, rfl, _, rfl, ?_⟩
    rw [decide_eq_true rfl]
    refine iteT ⟨_, rfl, rfl, v, rfl, o3, fun H4 s4 => ⟨_, rfl, L, _, _, _, rfl, rfl, lst_sq (s4 _ _ hL3), rfl, rfl, _, rfl, ?_⟩⟩
    rw [decide_eq_true rfl]
    refine iteT ⟨_, rfl, rfl, v, rfl, o3.same s4, fun H5 s5 => ⟨_, rfl, L, _, _, _, rfl, rfl, lst_sq (s5 _ _ (s4 _ _ hL3)), rfl, rfl, ?_⟩⟩
    rw [decide_eq_true rfl]
    exact q H5 (Same.tr (Same.tr (Same.tr s2 s3) s4) s5)
theorem cal__law_right (T : Tx K mg)  : CalG P w K mg base 3 "_law_right" (sp_right K) [] := by
  obtain ⟨fd, F⟩ := T.d__law_right
  exact ⟨_, fd, ["_law_thing", "_law_one", "_law_other"], [], fn__law_right T  F, T.g__law_right, F.kp, FunD.bindsN (ps := ["_law_thing", "_law_one", "_law_other"]) F (fun _ _ _ _ _ _ us hl => match us, hl with | [_, _, _], _ => rfl), .nil⟩

end
end G
namespace G
open PySem PySem.Spec PyProof.Rows L2
theorem sc_law : FnScope ["_law_script", "_law_k", "_law_box_here", "_law_number_here", "_law_one", "_law_other", "_law_some", "_law_thing"] ["_law_script"] (defScope s_law) := ⟨rfl, rfl, rfl, by decide +kernel, rfl, by decide +kernel, by decide +kernel⟩
section
variable {P : Program} {w : World} {K : PySem.W.Frag} {mg : Str → Option Value} {base : Heap}
theorem fn_law (T : Tx K mg)  {fd : FuncData} (F : FunD K d_law.name d_law.qual d_law.params d_law.body d_law.scope (d_law.dvs K) (d_law.kws K) (He.fAd K d_law.at_) fd) : FnG P w K mg base CX0 6 (He.fAd K d_law.at_) fd ["_law_script"] (sp_law K) := by
  refine FunD.okG F sc_law (fun vs H Q E h => ?_) (fun cdv A outer s H vs Q E hgu hr h => ?_)
  · exact lenOf h
  · have hu := hu_of hr
    have hu64 := hr.units
    have sz : 100000 ≤ sizeLine := by decide
    have C_is_integer := cal_is_integer (P := P) (w := w) (base := base) T
    have C__law_cell := cal__law_cell (P := P) (w := w) (base := base) T
    have C__law_box := cal__law_box (P := P) (w := w) (base := base) T
    have C__law_number := cal__law_number (P := P) (w := w) (base := base) T
    have C__law_word := cal__law_word (P := P) (w := w) (base := base) T
    have C__law_any := cal__law_any (P := P) (w := w) (base := base) T
    have C__law_right := cal__law_right (P := P) (w := w) (base := base) T
    have K_is_integer := kw_is_integer (P := P) (w := w) (base := base) T
    refine ⟨_, PSs.nox (pss_cons (ps_for PassesOwn.never rfl (pi_range1 rfl T.f_range (pa_cons (pe_callB (call_max2 rfl) rfl T.f_max PyProof.Rows.boot_max (pa_cons pe_int (pa_cons (pe_callB (call_min2 rfl) rfl T.f_min (by decide +kernel) (pa_cons pe_int (pa_cons (pe_callB call_len_seq rfl T.f_len PySem.boot_len (pa_cons (pv 0) pa_nil)) pa_nil))) pa_nil))) pa_nil)) (pg_name (i := 1) sc_law.nd rfl (Or.inl rfl)) (pss_cons (ps_set (i := 2) sc_law.nd rfl (Or.inl rfl) (C8.pe_c C__law_box hr (by decide) rfl (pa_cons (C8.pe_c C__law_cell hr (by decide) rfl (pa_cons (pv 0) (pa_cons (pv 1) pa_nil))) pa_nil)))
      (pss_cons (ps_par (i := 3) (j := 4) rfl sc_law.nd rfl rfl (by decide) rfl rfl (pa_cons (C8.pe_c C__law_number hr (by decide) rfl (pa_cons (pv 2) pa_nil)) (pa_cons (C8.pe_c C__law_number hr (by decide) rfl (pa_cons (pv 2) pa_nil)) pa_nil)) rfl)
      (pss_cons (ps_set (i := 5) sc_law.nd rfl (Or.inl rfl) (C8.pe_c C__law_number hr (by decide) rfl (pa_cons (pv 2) pa_nil)))
      (pss_cons (ps_set (i := 6) sc_law.nd rfl (Or.inl rfl) (pe_lst (pa_cons (C8.pe_c C__law_word hr (by decide) rfl (pa_cons (pv 2) pa_nil)) (pa_cons (C8.pe_c C__law_word hr (by decide) rfl (pa_cons (pv 2) pa_nil)) (pa_cons (C8.pe_c C__law_any hr (by decide) rfl (pa_cons (pv 2) pa_nil)) pa_nil)))))
      (pss_cons (ps_for PassesOwn.never rfl (pi_list (pe_op op_cat (pv 6) (pe_lst (pa_cons (pv 3) (pa_cons (pv 4) (pa_cons (pv 5) pa_nil)))))) (pg_name (i := 7) sc_law.nd rfl (Or.inl rfl)) (pss_one (ps_if (pt_not (pt_val (pe_cG C__law_right hgu hr (by decide) rfl (pa_cons (pv 7) (pa_cons (pv 4) (pa_cons (pv 5) pa_nil)))))) (pss_one (ps_ret pe_bl)) pss_nil)))
      (pss_cons (ps_if (pt_cmpR op_notBl (pe_k0 K_is_integer hr (by decide) rfl (pk_cons (pv 3) (pk_cons (pv 3) (pk_cons (pv 3) pk_nil)))) pe_bl (nomark _)) (pss_one (ps_ret pe_bl)) pss_nil)
      (pss_one (ps_if (pt_val (C8.pe_c C_is_integer hr (by decide) rfl (pa_cons (pv 4) (pa_cons (pe_op op_add (pv 4) pe_int) (pa_cons (pe_op op_sub (pv 4) pe_int) pa_nil))))) (pss_one (ps_ret pe_bl)) pss_nil)))))))))
      (pss_one (ps_ret pe_bl))), ?_⟩
    obtain ⟨_, a, ns, rfl, hS, hlen, k⟩ := h
    refine ⟨_, rfl, a, _, rfl, .inl hS, _, _, rfl, _, _, rfl, _, rfl, ?_, ?_, ?_⟩
    · rw [List.length_map]
      split <;> split <;> omega
    · rw [List.length_map]
      split <;> split <;> omega
    rw [List.length_map]
    refine for_range (fun _ σ H' => ∃ x1 x2 x3 x4 x5 x6 x7 : Option V, σ = [some (.ref a), x1, x2, x3, x4, x5, x6, x7] ∧ Same H H') ⟨_, _, _, _, _, _, _, rfl, Same.rfl'⟩ ?_ ?_
    · rintro i σ H1 hi ⟨x1, x2, x3, x4, x5, x6, x7, rfl, s1⟩
      have hi2 : i ≤ 100 := by
        have : i < 13 := Nat.lt_of_lt_of_le hi (by split <;> split <;> omega)
        omega
      -- box
      refine ⟨_, rfl, _, rfl, rfl, a, ns, i, (by rw [Int.zero_add]; rfl), Same.sqL s1 hS, hi2, fun c => ⟨rfl, c, rfl, fun p H2 np s2 B2 => ?_⟩⟩
      have np0 : H p = none := Same.un s1 np
      have S2 : But p H H2 := But.of (Same.tr s1 s2)
      -- numbers
      refine ⟨_, rfl, rfl, p, _, rfl, B2, by omega, fun n1 H3 B3 S3 => ⟨_, rfl, rfl, p, _, rfl, B3, by omega, fun n2 H4 B4 S4 => ⟨_, _, rfl, ?_⟩⟩⟩
      refine ⟨_, rfl, rfl, p, _, rfl, B4, by omega, fun n3 H5 B5 S5 => ?_⟩
      -- some
      refine ⟨_, rfl, rfl, p, _, rfl, B5, by omega, fun z1 H6 hz1 B6 S6 => ⟨_, rfl, rfl, p, _, rfl, B6, by omega, fun z2 H7 hz2 B7 S7 => ⟨_, rfl, rfl, p, _, rfl, B7, by omega, fun v H8 hv B8 S8 => ⟨(by show 3 ≤ sizeLine; decide), fun L nL => ?_⟩⟩⟩⟩
      have SA : But p H H8 := (((((S2.tr S3).tr S4).tr S5).tr S6).tr S7).tr S8
      -- the loop
      refine ⟨_, rfl, _, rfl, _, rfl, _, rfl, (by show 3 ≤ sizeLine; decide), fun M nM => ?_⟩
      have nLM : L ≠ M := ne_of_none upd_same nM
      refine ⟨L, M, _, _, rfl, rfl, (by rw [upd_ne nLM]; exact upd_same), upd_same, (by show 6 ≤ sizeLine; decide), fun E nE => ?_⟩
      have sL : Same H8 (upd H8 L (.lst [.str z1, .str z2, v])) := Same.new nL
      have sE : Same H8 _ := Same.new' (o := .lst ([.str z1, .str z2, v] ++ [.int n1, .int n2, .int n3])) (Same.new' (o := .lst [.int n1, .int n2, .int n3]) sL nM) nE
      refine ⟨E, rfl, ⟨_, lst_sq upd_same⟩, ?_⟩
      have okv : ∀ {Hz : Hp}, Same H8 Hz → ∀ y ∈ ([.str z1, .str z2, v] ++ [.int n1, .int n2, .int n3] : List V), Okv K Hz y := by
        intro Hz sz y hy
        simp only [List.cons_append, List.nil_append, List.mem_cons, List.not_mem_nil, or_false] at hy
        rcases hy with rfl | rfl | rfl | rfl | rfl | rfl
        · exact ⟨Ask.str _, fun x e => by cases e; omega⟩
        · exact ⟨Ask.str _, fun x e => by cases e; omega⟩
        · exact hv.same sz
        · exact ⟨Ask.int _, fun x e => nomatch e⟩
        · exact ⟨Ask.int _, fun x e => nomatch e⟩
        · exact ⟨Ask.int _, fun x e => nomatch e⟩
      have nEp : E ≠ p := by
        obtain ⟨_, _, _, hp, _⟩ := B8
        exact (ne_of_none (Same.new' (o := .lst [.int n1, .int n2, .int n3]) sL nM _ _ hp) nE).symm
      refine for_list (K := K) (a := E) (xs := [.str z1, .str z2, v] ++ [.int n1, .int n2, .int n3]) (fun _ σ Hz => ∃ x : Option V, σ = [some (.ref a), some (.int (0 + (i : Int))), some (.ref p), some (.int n1), some (.int n2), some (.int n3), some (.ref L), x] ∧ Same (upd (upd (upd H8 L (.lst [.str z1, .str z2, v])) M (.lst [.int n1, .int n2, .int n3])) E (.lst ([.str z1, .str z2, v] ++ [.int n1, .int n2, .int n3]))) Hz) ⟨x7, rfl, Same.rfl'⟩ ?_ ?_ ?_
      · rintro j σ Hz hj ⟨x, rfl, sz⟩
        exact lst_sq (sz _ _ upd_same)
      · rintro j y σ Hz hj ⟨x, rfl, sz⟩
        refine ⟨_, rfl, _, rfl, _, rfl, rfl, y, n2, n3, rfl, okv (Same.tr sE sz) y (List.mem_of_getElem? hj), fun Hy sy => ⟨_, rfl, iteF ?_⟩⟩
        exact ⟨_, rfl, Same.tr sz sy⟩
      · rintro σ Hz ⟨x, rfl, sz⟩
        refine ⟨_, rfl, _, rfl, _, rfl, rfl, rfl, rfl, .int n1, n1, n1, rfl, Ask.int n1, _, _, rfl, rfl, _, rfl, ?_⟩
        rw [show inR (.int n1) n1 n1 = true by rw [inR_int, decide_eq_true (Int.le_refl n1)]; rfl]
        refine iteF ⟨_, rfl, _, rfl, _, _, rfl, rfl, _, rfl, _, _, rfl, rfl, rfl, .int n2, _, _, rfl, Ask.int n2, _, rfl, ?_⟩
        rw [show inR (.int n2) (n2 + 1) (n2 - 1) = false by rw [inR_int, decide_eq_false (by omega)]; rfl]
        refine iteF ⟨_, _, _, _, _, _, _, rfl, ?_⟩
        have SB : But p H Hz := SA.same (Same.tr sE sz)
        exact fun x o hx => SB x o hx (fun e => by rw [e, np0] at hx; exact nomatch hx)
    · rintro σ H1 ⟨x1, x2, x3, x4, x5, x6, x7, rfl, s1⟩
      exact k H1

end
end G
set_option maxHeartbeats 0
namespace G
open PySem PySem.Spec PyProof.Rows L2
abbrev R : PySem.W.OpenRow := PySem.W.OpenLaw.row PySem.Challenge.rw_mapsizes_k02_integers_names_marks
abbrev hk : PySem.W.Hook := He.hookX 6 fa fn [] [] ex
def ob (s : PySem.W.SharedT) : He.AlX := He.obsX 6 fa fn [] [] ex (HandSHeadRun.getT s)
theorem ob_eq (s : PySem.W.SharedT) : ob s = hk.obs s.abs := He.obsX_eq (HandSHeadRun.getT_eq s)
def loose : List PySem.Str := (["__name__", "MapError", "InvalidInteger", "InvalidName", "InvalidPlace", "Unordered", "LETTERS", "RESERVED", "MOST_LETTERS", "MOST_SHIFT", "SIGNS", "is_integer", "is_name", "is_mark", "least_shift", "parts_of", "pair_of", "Place", "_law_cell", "_law_box", "_law_take", "_law_word", "_law_number", "_law_any", "_law_name_due", "_law_right"] : List PySem.Str)
abbrev RunAt (w : World) : Prop := HandSHeadRun.RunEq R (PySem.W.view R.prog [28]) hk ob 4000 loose w
theorem run_false (w : World) : RunAt (w.withFollow "special-get-raises" false) := by
  intro os
  kernel_rfl
theorem run_true (w : World) : RunAt (w.withFollow "special-get-raises" true) := by
  intro os
  kernel_rfl
theorem run (w : World) : RunAt w := PySem.W.byRow2 "special-get-raises" (P := RunAt) run_false run_true w
theorem mkT {w : World} {h : Heap} {K : PySem.W.Frag} {mg : Str → Option Value} (X : K.In h) (Gm : h.Ns mainGlobals mg) (c : He.SaysX fa fn [] [] ex w h K) : Tx K mg := by
  have cd := c.t.d
  exact {
    g_is_integer := He.glo_ok X Gm (cd.fact 0 (f := .glo "is_integer") rfl)
    g_is_name := He.glo_ok X Gm (cd.fact 1 (f := .glo "is_name") rfl)
    g_is_mark := He.glo_ok X Gm (cd.fact 2 (f := .glo "is_mark") rfl)
    g_least_shift := He.glo_ok X Gm (cd.fact 3 (f := .glo "least_shift") rfl)
    g__law_cell := He.glo_ok X Gm (cd.fact 4 (f := .glo "_law_cell") rfl)
    g__law_box := He.glo_ok X Gm (cd.fact 5 (f := .glo "_law_box") rfl)
    g__law_take := He.glo_ok X Gm (cd.fact 6 (f := .glo "_law_take") rfl)
    g__law_word := He.glo_ok X Gm (cd.fact 7 (f := .glo "_law_word") rfl)
    g__law_number := He.glo_ok X Gm (cd.fact 8 (f := .glo "_law_number") rfl)
    g__law_any := He.glo_ok X Gm (cd.fact 9 (f := .glo "_law_any") rfl)
    g__law_name_due := He.glo_ok X Gm (cd.fact 10 (f := .glo "_law_name_due") rfl)
    g__law_right := He.glo_ok X Gm (cd.fact 11 (f := .glo "_law_right") rfl)
    g_law := He.glo_ok X Gm (cd.fact 12 (f := .glo "law") rfl)
    g_Place := He.glo_ok X Gm (cd.fact 13 (f := .glo "Place") rfl)
    g_RESERVED := He.glo_ok X Gm (cd.fact 14 (f := .glo "RESERVED") rfl)
    f_isinstance := He.free_ok X Gm (cd.fact 15 (f := .free "isinstance") rfl)
    f_int := He.free_ok X Gm (cd.fact 16 (f := .free "int") rfl)
    f_bool := He.free_ok X Gm (cd.fact 17 (f := .free "bool") rfl)
    f_str := He.free_ok X Gm (cd.fact 18 (f := .free "str") rfl)
    f_len := He.free_ok X Gm (cd.fact 19 (f := .free "len") rfl)
    f_all := He.free_ok X Gm (cd.fact 20 (f := .free "all") rfl)
    f_max := He.free_ok X Gm (cd.fact 21 (f := .free "max") rfl)
    f_min := He.free_ok X Gm (cd.fact 22 (f := .free "min") rfl)
    f_range := He.free_ok X Gm (cd.fact 23 (f := .free "range") rfl)
    f_repr := He.free_ok X Gm (cd.fact 24 (f := .free "repr") rfl)
    c_MOST_LETTERS := (He.int_ok X Gm (cd.fact 25 (f := .int "MOST_LETTERS" 6) rfl)).elim fun t h => ⟨_, h, t, rfl⟩
    c_MOST_SHIFT := (He.int_ok X Gm (cd.fact 26 (f := .int "MOST_SHIFT" 3) rfl)).elim fun t h => ⟨_, h, t, rfl⟩
    c_LETTERS := (He.str_ok X Gm (cd.fact 27 (f := .str "LETTERS" "abcdefghijklmnopqrstuvwxyz") rfl)).elim fun t h => ⟨_, h, t, rfl⟩
    c_RESERVED := ⟨_, He.glo_ok X Gm (cd.fact 14 (f := .glo "RESERVED") rfl), rfl⟩
    d_is_integer := cd.def_ 0 (d := d_is_integer) rfl
    d_is_name := cd.def_ 1 (d := d_is_name) rfl
    d_is_mark := cd.def_ 2 (d := d_is_mark) rfl
    d_least_shift := cd.def_ 3 (d := d_least_shift) rfl
    d_Place___init__ := cd.def_ 4 (d := d_Place___init__) rfl
    d__law_cell := cd.def_ 5 (d := d__law_cell) rfl
    d__law_box := cd.def_ 6 (d := d__law_box) rfl
    d__law_take := cd.def_ 7 (d := d__law_take) rfl
    d__law_word := cd.def_ 8 (d := d__law_word) rfl
    d__law_number := cd.def_ 9 (d := d__law_number) rfl
    d__law_any := cd.def_ 10 (d := d__law_any) rfl
    d__law_name_due := cd.def_ 11 (d := d__law_name_due) rfl
    d__law_right := cd.def_ 12 (d := d__law_right) rfl
    d_law := cd.def_ 13 (d := d_law) rfl
    t_RES := fun H => He.tupB_ok (He.ba c.more).1 H
    i_Place := (He.ba c.more).2
    cl_Place := He.cls_ok (cd.fact 28 (f := .cls "Place") rfl)
    nb_Place := He.noat_ok (cd.fact 29 (f := .noat "Place" "own_base") rfl)
    ns_Place := He.noat_ok (cd.fact 30 (f := .noat "Place" "own_shift") rfl)
    mk_Place := He.mkr_ok (cd.fact 31 (f := .mkr "Place") rfl)
  }
end G
namespace G
open PySem PySem.Spec PyProof.Rows L2
theorem facts {P : Program} {w : World} {K : PySem.W.Frag} {h : Heap} {mg : Str → Option Value} {f : Addr} (X : K.In h) (Gm : h.Ns mainGlobals mg) (hf : mg ("law" : Str) = some (.ref f)) (c : He.SaysX fa fn [] [] ex w h K) :
    ∃ fd : FuncData, (∀ (s : Shared) (v : Value), BindsTo s fd ⟨[v], []⟩ [("_law_script", v)]) ∧ ∀ bs : Heap, K.In bs → bs.Ns mainGlobals mg → FnG P w K mg bs CX0 6 f fd ["_law_script"] (sp_law K) := by
  have T := mkT X Gm c
  obtain ⟨fd, F⟩ := T.d_law
  have e := hf.symm.trans T.g_law
  cases e
  have b := FunD.bindsA (ps := ["_law_script"]) F fun _ _ _ _ _ _ us hl => match us, hl with | [_], _ => rfl
  exact ⟨fd, fun s v => b s [v] rfl, fun bs _ _ => fn_law T F⟩
end G
open PySem PySem.W PySem.Calls PyProof.Rows
set_option maxHeartbeats 0 in
theorem PySem.Challenge.cw_mapsizes_k02_integers_names_marks_holds : PySem.Challenge.rw_mapsizes_k02_integers_names_marks.Holds := by
  w_on; o_law
  refine HandSHeadRun.head_any (r := G.R) (q := view G.R.prog [28]) (H := G.hk) (ob := G.ob) (M := 4000) (loose := G.loose) (d := HandSHeadRun.topDef G.R.prog 28) (kwd := []) G.ob_eq
    (by kernel_rfl) (fun s => by kernel_rfl) G.run (by kernel_rfl) (by kernel_rfl) (by kernel_rfl) (by rfl) (by first | assumption | decide +kernel) (by decide +kernel) ⟨rfl, rfl, rfl, rfl, rfl, by decide +kernel⟩ ?hw ?hc
  case hw => w_witness2
  case hc =>
    refine G.walk_G (l := PySem.Challenge.rw_mapsizes_k02_integers_names_marks) (n := 63) (k := 6) (x := "_law_script") (CX := fun _ => L2.CX0) rfl (by decide) (by kernel_rfl) ⟨rfl, by decide, by decide⟩ ?F (fun _ _ _ _ _ z => z)
    intro w mg fa h Y Gm hmg0
    obtain ⟨K, KX, c⟩ := Y
    have hmg : mg ("law" : PySem.Str) = some (.ref fa) := by
      have e : (HandSHeadRun.topDef G.R.prog 28).name = ("law" : PySem.Str) := by kernel_rfl
      rw [← e]
      exact hmg0
    obtain ⟨fd, hb, hF⟩ := G.facts (P := (PySem.Challenge.rw_mapsizes_k02_integers_names_marks).prog) (w := w) KX Gm hmg c
    exact ⟨K, fd, G.sp_law K, KX, hb, fun H a ns hl hS => ⟨rfl, a, ns, rfl, hS, hl, fun _ => rfl⟩, hF⟩
#print axioms PySem.Challenge.cw_mapsizes_k02_integers_names_marks_holds

