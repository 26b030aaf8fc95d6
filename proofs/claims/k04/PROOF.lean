import PyProof.Rows.All
import Wide.All
import OpenK.AllK
import Wide.FinOn
import HandS.ForMost
import HandS.IsInst
import HandS.Flow
import HandS.Walk
import HandS.Codes
import PyProof.TupleOfStr
import PyProof.ReprRoads
import HandS.OwnEq
import HandS.DictComp
import HandS.Star
import HandS.Conv
import HandS.ClsMeth
import KE.GoesMore
import PySem.Challenge.RW_sparenames_k04_whole_sets_joined
set_option Elab.async false
set_option linter.all false
set_option maxRecDepth 100000
set_option maxHeartbeats 4000000
/-! ## A small layer of our own over HandS: defs whose callers have no repr under way (guards), repr of data, tuple(text) -/
namespace Sn
open PySem PySem.Spec PyProof.Rows L2

/-! ### a def's promise where no repr is under way -/
section
variable {P : Program} {w : World} {K : PySem.W.Frag} {mg : Str → Option Value} {base : Heap} {CX : CXT}
structure FnG (P : Program) (w : World) (K : PySem.W.Frag) (mg : Str → Option Value)
    (base : Heap) (CX : CXT) (k : Nat) (f : Addr) (fd : FuncData) (ps : List Str) (sp : Sp) : Prop where
  leng : ∀ xs H Q E, sp xs H Q E → xs.length = ps.length
  runs : ∀ (A : Around) (fr : List Env) (s : Shared) (H : Hp) (ar : Args) (us : List Value) (xs : List V) (Q : VK) (E : XK),
    A.guards = some [] → Room k A → Env0 P w K mg base A fr s H → BindsTo s fd ar (ps.zip us) → Vals xs us → sp xs H Q E →
    codeAny (model P w) A (.call (.ref f) ar) (CR CX fr P w H s Q E) s
theorem FnG.of {k : Nat} {f : Addr} {fd : FuncData} {ps : List Str} {sp : Sp}
    (F : FnOk P w K mg base CX k f fd ps sp) : FnG P w K mg base CX k f fd ps sp :=
  ⟨F.len, fun A fr s H ar us xs Q E _ a b c d e => F.run A fr s H ar us xs Q E a b c d e⟩
theorem fnG_of {k : Nat} {f : Addr} {nm ql : Str} {pa : Arguments} {bd : List Stmt} {sc : Scope}
    {dV kV dc pm cd ct oc : Value} {an od : Option Addr} {sl : Array (Option Value)} {N ps : List Str} {sp : Sp}
    (lk : K.lookup f = some ⟨oc, od, .func (PySem.W.fnOf nm ql pa bd sc dV kV dc pm an cd ct), sl⟩)
    (hc : PySem.W.codeIn K cd ql = true) (S : FnScope N ps sc) (leng : ∀ xs H Q E, sp xs H Q E → xs.length = ps.length)
    (hb : ∀ (A : Around) (fr : List Env) (s : Shared) (H : Hp) (xs : List V) (Q : VK) (E : XK),
      (A.deeper (envOfC ql sc s.heap.objs.size f cd)).guards = some [] → Room k (A.deeper (envOfC ql sc s.heap.objs.size f cd)) →
      sp xs H Q E → ∃ t, PSs (cxOf CX P w K mg base N ql sc f cd A fr s H E) bd t ∧
        t { nx := fun _ H' => Q .non H', rt := Q } (start N xs) H) :
    FnG P w K mg base CX (k + 1) f (PySem.W.fnOf nm ql pa bd sc dV kV dc pm an cd ct) ps sp := by
  refine ⟨leng, ?_⟩
  intro A fr s H ar us xs Q E hg hr e0 hbi rv hsp
  have hlen := leng _ _ _ _ hsp
  have kin : K.In s.heap := e0.mod.kin.keeps fun b o q => (e0.bs b o q).1
  have nol : s.heap.NoLimit := e0.mod.nolimit.keeps fun b o q => (e0.bs b o q).1
  have knd : ∀ y ∈ ps.zip us, sc.names.lookup y.1 = some .local ∨ (sc.names.lookup y.1 = some .cell ∧
      ((cellsFrom (s.heap.objs.size + 1) sc.names []).lookup y.1).isSome = true) := by
    rintro ⟨n, v⟩ hy
    exact (S.par n (List.of_mem_zip hy).1).elim .inl fun q => .inr ⟨q, PySem.W.cellsFrom_some _ _ _ (.inl q)⟩
  refine codeAny_call_function hr.depth (kin _ _ lk) rfl S.co S.gen rfl (PySem.W.codeRec_of kin hc) ?_
  refine hbi _ _ _ _ ?_
  refine wpAny_newFunctionEnv_cells S.kind knd ?_
  rintro env rfl s1 x
  refine ⟨nol.keeps x.toInCall.keep, codeAny_func ?_⟩
  obtain ⟨t, ht, hq⟩ := hb A fr s H xs Q E hg (hr.deeper _) hsp
  have J : Inv (cxOf CX P w K mg base N ql sc f cd A fr s H E) [] (start N xs) H s1 :=
    inv_start S hr.hd e0 hlen rv x
  refine wpAny_mono (ht.run [] s1 (start N xs) H _ J hq) ?_ fun e s' z => z
  intro fl s' hs
  match fl, hs with
  | .ret u, ⟨v, σ', H', J', rr, qq⟩ => exact ⟨v, H', J'.os, J'.bare, J'.base, J'.hok, rr, qq⟩
  | .next, ⟨σ', H', J', qq⟩ => exact ⟨V.non, H', J'.os, J'.bare, J'.base, J'.hok, rfl, qq⟩
  | .brk, ⟨_, _, _, qq⟩ => exact False.elim qq
  | .cont, ⟨_, _, _, qq⟩ => exact False.elim qq
theorem okG {x ql : Str} {st : Stmt} {f : Addr} {fd : FuncData} {N ps : List Str} {k : Nat} {sp : Sp}
    (F : Fun K x ql st f fd) (S : FnScope N ps (defScope st)) (leng : ∀ xs H Q E, sp xs H Q E → xs.length = ps.length)
    (hb : ∀ (cd : Value) (A : Around) (fr : List Env) (s : Shared) (H : Hp) (xs : List V) (Q : VK) (E : XK),
      (A.deeper (envOfC ql (defScope st) s.heap.objs.size f cd)).guards = some [] →
      Room k (A.deeper (envOfC ql (defScope st) s.heap.objs.size f cd)) → sp xs H Q E →
      ∃ t, PSs (cxOf CX0 P w K mg base N ql (defScope st) f cd A fr s H E).nox (defBody st) t ∧
        t { nx := fun _ H' => Q .non H', rt := Q } (start N xs) H) :
    FnG P w K mg base CX0 (k + 1) f fd ps sp := by
  obtain ⟨oc, od, kV, dc, pm, an, cd, ct, sl, rfl, lk, hcd⟩ := F.ex
  refine fnG_of lk hcd S leng fun A fr s H xs Q E hg hr h => ?_
  obtain ⟨t, a, b⟩ := hb cd A fr s H xs Q E hg hr h
  exact ⟨t, a.nox, b⟩
end

section
variable {X : Cx} {CX : CXT} {k : Nat} {f : Addr} {fd : FuncData} {ps : List Str} {sp : Sp} {dvs : List V} {ds : List Value}
  {E : XK} {x : Str} {p pos : Pos} {e : Expr} {es : List Expr} {t : TA}
theorem runG {pins : List (Addr × Obj)} {σ : L2.St} {H : Hp} {s : Shared} {Q : VK} {us : List Value} {xs : List V}
    (F : FnG X.prog X.w X.K X.mg X.base CX k f fd ps sp) (hgu : X.A.guards = some []) (hr : Room k X.A)
    (hb : Binds X.K fd ps ds) (hd : Vals dvs ds) (hx : Passes CX X E) (I : Inv X pins σ H s) (r : Vals xs us)
    (h : sp (xs ++ dvs) H Q E) : wpAny (model X.prog X.w) X.A (call (.ref f) us) (EP X pins σ Q) X.xe s := by
  have r2 : Vals (xs ++ dvs) (us ++ ds) := r.append hd
  have hl : (us ++ ds).length = ps.length := r2.length.symm.trans (F.leng _ _ _ _ h)
  refine wpAny_call (codeAny_mono (F.runs X.A X.stack s H ⟨us, []⟩ _ _ Q E hgu hr I.env0 (hb s us I.kIn hl) r2 h) ?_)
  intro r s' hq
  match r, hq with
  | .error e, hq => exact hx pins σ H s e s' I hq
  | .ok (.ret u), hq => exact I.after hq
  | .ok .next, hq => exact False.elim hq
  | .ok .brk, hq => exact False.elim hq
  | .ok .cont, hq => exact False.elim hq
/-- f(e, ..) where no repr is under way -/
theorem pe_callG (F : FnG X.prog X.w X.K X.mg X.base CX k f fd ps sp) (hgu : X.A.guards = some []) (hr : Room k X.A) (hg : Gl X x)
    (hm : X.mg x = some (.ref f)) (hk : PySem.W.keepIn X.K (.ref f) = true) (hb : Binds X.K fd ps ds) (hd : Vals dvs ds)
    (hx : Passes CX X E) (ha : PA X (e :: es) t) (hdb : (x == ("__debug__" : Str)) = false := by decide)
    (he : starEach (e :: es) X.env = (false, eval e X.env) :: starEach es X.env := by rfl)
    (hpl : (backTo pos (starEach es X.env)).any (·.1) = false := by rfl) :
    PE X (.Call (.Name x p) (e :: es) [] pos) (tCall sp dvs E t) := by
  refine ⟨fun pins s σ H Q I h => wpAny_Call_Name_kw (ld_glob I hg hm ?_ hdb)⟩
  refine PySem.W.callWith_K (h₀ := X.base) I.ok.mod.kin hk ?_ he hpl
  refine thn (ha.run pos pins s σ H _ I h) ?_
  rintro us s1 ⟨xs, H1, I1, r, q⟩
  exact ⟨I1.kIn, runG F hgu hr hb hd hx I1 r q⟩

/-- f(k = v, ..), keywords alone -/
theorem pe_callK0 {kws : List Keyword} {tk : TA} {ks : List Str} {g : List Value → List Value → List Value} {gV : List V → List V → List V}
    (F : FnOk X.prog X.w X.K X.mg X.base CX k f fd ps sp) (hr : Room k X.A) (hg : Gl X x) (hm : X.mg x = some (.ref f))
    (hk : PySem.W.keepIn X.K (.ref f) = true) (hb : KBinds X.K fd ps ks g gV) (hx : Passes CX X E) (hkw : PK X kws tk)
    (hall : (backToKw pos (keywordEach kws X.env)).all (·.1.isSome) = true := by rfl)
    (hks : (backToKw pos (keywordEach kws X.env)).filterMap (·.1) = ks := by rfl) (hdb : (x == ("__debug__" : Str)) = false := by decide)
    (hpl : (backToKw pos (keywordEach kws X.env)).any (·.1.isNone) = false := by rfl) :
    PE X (.Call (.Name x p) [] kws pos) (tCallK sp gV E tNil tk) := by
  refine ⟨fun pins s σ H Q I h => wpAny_Call_Name_kw (ld_glob I hg hm ?_ hdb)⟩
  refine PySem.W.callWith_KW0 (h₀ := X.base) I.ok.mod.kin hk hall ?_ hpl
  refine thn (hkw.run pos pins s σ H _ I h) ?_
  rintro ws s2 ⟨zs, H2, I2, rz, q2⟩
  refine ⟨I2.kIn, ?_⟩
  rw [hks]
  exact run_fnk F hr hb hx I2 .nil rz q2
/-- repr of data that stands at an address -/
theorem call_repr (hgu : X.A.guards = some []) (hu : X.A.units + 70 < cLine) : CallR X (.builtin "repr")
    (fun xs H Q => ∃ (a : Addr) (d : PyData), xs = [.ref a] ∧ Dp X.K H (.ref a) d ∧ d.showable = true ∧ d.hasDict = false ∧
      d.depth ≤ 64 ∧ d.shown.length ≤ sizeLine ∧ Q (.str d.shown) H) := by
  intro pins s σ H xs us Q I r h
  obtain ⟨a, d, rfl, hD, hs, hn, hd, hz, q⟩ := h
  obtain ⟨u, rfl, rx⟩ := vals1 r
  obtain ⟨as, rr⟩ := Dp.reads I d _ u hD rx
  cases rx
  refine repr_of_reads' rr hs (fun z => by rw [hn] at z; cases z) hgu (by omega) (fun _ _ z => z) ?_ hz
  intro h' u tk kp
  exact ⟨.str _, H, I.kept kp, ⟨_, rfl⟩, q⟩
/-- tuple(text) -/
theorem call_tupS : CallR X (.type "tuple") (fun xs H Q => ∃ z : Str, xs = [.str z] ∧ X.A.handled = none ∧ z.cps.size ≤ sizeLine ∧
      ∀ l, H l = none → Q (.ref l) (upd H l (.tup (z.cps.toList.map fun c => V.str ⟨#[c]⟩)))) := by
  intro pins s σ H xs us Q I r h
  obtain ⟨z, rfl, hh, hz, q⟩ := h
  obtain ⟨u, rfl, t, rfl⟩ := vals1 r
  refine call_tuple_str hh z t ?_ hz
  intro h' tk acc kp hacc
  have I1 : Inv X pins σ H { s with heap := h', toks := tk } := I.kept kp
  have rv : Vals (z.cps.toList.map fun c => V.str ⟨#[c]⟩) acc.toList := by
    have key : ∀ (cs : List Nat) (us : List Value), us.length = cs.length →
        (∀ (j : Nat) (v : Value), us[j]? = some v → ∃ c u, cs[j]? = some c ∧ v = Value.str ⟨#[c]⟩ u) → Vals (cs.map fun c => V.str ⟨#[c]⟩) us := by
      intro cs
      induction cs with
      | nil =>
        intro us hl _
        match us, hl with
        | [], _ => exact .nil
      | cons c cs ih =>
        intro us hl hv
        match us, hl with
        | u :: us, hl =>
          obtain ⟨c', w', e1, e2⟩ := hv 0 u rfl
          cases e1
          exact .cons ⟨w', e2⟩ (ih us (by simpa using hl) fun j v hj => hv (j + 1) v hj)
    refine key _ _ (by simpa using hacc.1) fun j v hj => ?_
    obtain ⟨c, u, e1, e2⟩ := hacc.2 j v (by simpa using hj)
    exact ⟨c, u, by simpa using e1, e2⟩
  refine ⟨.ref h'.objs.size, _, I1.laid (t' := tk) (fun b o e => Heap.get?_push_of_some _ e) (Nat.le_refl _) ?_, rfl, q _ (I1.hok.fresh (Nat.le_refl _))⟩
  refine (show ObjOk X.prog X.w _ _ _ (.tup _) from ⟨by simpa using hz, acc.toList, rv, ?_⟩)
  rw [show acc.toList.toArray = acc from by simp]
  exact ⟨_, Heap.get?_push_size _ rfl, rfl, _, rfl⟩
end

theorem hu70 {A : Around} {k : Nat} (hr : Room k A) : A.units + 70 < cLine := by have := hr.un; omega
/-! ### the law's end: the caller has no repr under way -/
theorem law_callG {P : Program} {w : World} {K : PySem.W.Frag} {mg mb : Str → Option Value} {CX : CXT} {k : Nat}
    {fa a : Addr} {fd : FuncData} {x : Str} {sp : Sp} {s₁ : Shared} {us : List Value} {ns : List Int}
    (kin : K.In s₁.heap) (hns : s₁.heap.Ns mainGlobals mg) (hbn : s₁.heap.Ns builtinsNs mb)
    (hbb : ∀ x : Str, x ≠ "__name__" → mb x = bootBuiltins x) (nol : s₁.heap.NoLimit) (hge : s₁.gens = #[])
    (ha : s₁.heap.get? a = some { cls := .type "list", data := .seq us.toArray }) (hi : IntsAre us ns)
    (hl : ns.length ≤ sizeLine) (hr : Room k callerA)
    (F : ∀ base : Heap, K.In base → base.Ns mainGlobals mg → FnG P w K mg base CX k fa fd [x] sp)
    (hbi : ∀ (s : Shared) (u : Value), BindsTo s fd ⟨[u], []⟩ [(x, u)])
    (hsp : ∀ H : Hp, Only H → SqL K H a (ns.map V.int) → sp [.ref a] H (fun v _ => v = .bl true) fun _ _ _ => False)
    (hCX : ∀ H e s', CX [] H s₁ (fun _ _ _ => False) e s' → False) :
    codeAny (model P w) callerA (.call (.ref fa) ⟨[.ref a], []⟩)
      (fun r s' => r = .ok (.ret (.bool true)) ∧ OldK s₁.heap s'.heap ∧ s'.os = s₁.os ∧ AllBare s'.gens) s₁ := by
  have rv := vals_ints hi
  have main : ∀ H : Hp, Only H → SqL K H a (ns.map V.int) → HOk P w H s₁.heap → (∀ b, H b ≠ none → b = a) →
      (H a ≠ none → K.lookup a = none) → codeAny (model P w) callerA (.call (.ref fa) ⟨[.ref a], []⟩)
      (fun r s' => r = .ok (.ret (.bool true)) ∧ OldK s₁.heap s'.heap ∧ s'.os = s₁.os ∧ AllBare s'.gens) s₁ := by
    intro H hO hS hok hA hK
    have only : ∀ {b : Addr} {u : HO}, H b = some u → b = a := fun {b u} q => hA b (by rw [q]; simp)
    have nodict : ∀ {b : Addr} {o : Obj} {es : Array DictEntry} {ep : Nat}, s₁.heap.get? b = some o → o.data = .dict es ep → H b = none := by
      intro b o es ep q d
      cases hq : H b with
      | none => rfl
      | some u =>
        cases only hq
        rw [ha] at q; cases q; cases d
    have ns2 : ∀ {b : Addr} {m : Str → Option Value}, s₁.heap.Ns b m → (hidT s₁.heap H).Ns b m := by
      rintro b m ⟨o, es, ep, q, d, r⟩
      exact ⟨o, es, ep, hidT_get q (nodict q d), d, r⟩
    have kb : K.In (hidT s₁.heap H) := by
      intro b o q
      refine hidT_get (kin b o q) ?_
      cases hq : H b with
      | none => rfl
      | some u =>
        cases only hq
        rw [hK (by rw [hq]; simp)] at q; cases q
    obtain ⟨mc, h1, h2⟩ := nol
    have e0 : Env0 P w K mg (hidT s₁.heap H) callerA [] s₁ H :=
      { frames := rfl, mod := ⟨kb, ns2 hns, ⟨mb, ns2 hbn, hbb⟩, ⟨mc, ns2 h1, h2⟩⟩, bs := fun b o q => of_hidT q
        bsz := Nat.le_of_eq (hidT_size _ _), funs := trivial, frf := (fun b z => nomatch z), hok := hok, bare := .of_eq hge }
    refine codeAny_mono ((F _ kb (ns2 hns)).runs callerA [] s₁ H ⟨[.ref a], []⟩ [.ref a] [.ref a] _ _ rfl hr e0 (hbi s₁ (.ref a)) (.cons rfl .nil) (hsp H hO hS)) ?_
    intro r s' h
    match r, h with
    | .error e, h => exact (hCX H e s' h).elim
    | .ok .next, h => exact False.elim h
    | .ok .brk, h => exact False.elim h
    | .ok .cont, h => exact False.elim h
    | .ok (.ret u), ⟨v, H', os, bare, un, hok', rr, q⟩ =>
      have q1 : v = .bl true := q
      subst q1
      have q2 : u = Value.bool true := rr
      subst q2
      refine ⟨rfl, OldK.of_keep ?_, os, bare⟩
      intro b o e
      cases hq : H b with
      | none => exact un.keep b o e hq (fun z => nomatch z) (fun z => nomatch z)
      | some u =>
        rcases hO b with z | ⟨ob, xs, z⟩
        · rw [hq] at z; cases z
        · have e1 := (hok b _ z).1
          have e2 := (hok' b _ (un.frzs b ob _ z)).1
          rw [e] at e1; cases e1
          exact e2
  have lenV := hi.length
  cases hk : K.lookup a with
  | some o =>
    have e := kin a o hk
    rw [ha] at e
    cases e
    refine main (fun _ => none) (fun _ => .inl rfl) (.inr ⟨_, us.toArray, _, hk, rfl, rfl, rfl, ?_, by simpa using rv⟩) (fun b u z => nomatch z) (fun b z => absurd rfl z) fun z => absurd rfl z
    rw [List.size_toArray, lenV]; exact hl
  | none =>
    have only1 : ∀ b, ¬ b = a → (if b = a then some (HO.frz { cls := .type "list", data := .seq us.toArray } (.lst (ns.map V.int))) else none) = none := fun b h => if_neg h
    refine main (fun b => if b = a then some (.frz { cls := .type "list", data := .seq us.toArray } (.lst (ns.map V.int))) else none) ?_ (.inl (.inr ⟨_, if_pos rfl⟩)) ?_ ?_ fun _ => hk
    · intro b
      by_cases hb : b = a
      · exact .inr ⟨_, _, if_pos hb⟩
      · exact .inl (if_neg hb)
    · intro b u z
      by_cases hb : b = a
      · have z2 := (if_pos hb).symm.trans z
        cases z2
        subst hb
        exact ⟨ha, by rw [List.length_map]; exact hl, us, _, rv, ha⟩
      · have z2 := (if_neg hb).symm.trans z
        cases z2
    · intro b z
      exact Decidable.byContradiction fun hb => z (if_neg hb)
theorem walkG {l : PySem.W.OpenLaw} {n k : Nat} {q : Program} {loose : List Str} {XP : (Str → Option Value) → Heap → Prop}
    {YP : World → Heap → Prop} {d : DefRec} {K : Params → PySem.W.Frag} {CX : World → CXT} {sp : World → Sp} {x : Str}
    (hn : l.most = some n) (hn2 : n ≤ sizeLine) (hdf : d.params.defaults = []) (hr : Room k callerA)
    (hY : ∀ (w : World) (h : Heap), YP w h → (K w.params).In h)
    (F : ∀ (w : World) (mg : Str → Option Value) (fa : Addr) (h : Heap), (K w.params).In h → h.Ns mainGlobals mg →
      mg d.name = some (.ref fa) → ∃ fd : FuncData, (∀ (s : Shared) (u : Value), BindsTo s fd ⟨[u], []⟩ [(x, u)]) ∧
        ∀ base : Heap, (K w.params).In base → base.Ns mainGlobals mg → FnG l.prog w (K w.params) mg base (CX w) k fa fd [x] (sp w))
    (hsp : ∀ (w : World) (H : Hp) (a : Addr) (ns : List Int), ns.length ≤ n → Only H → SqL (K w.params) H a (ns.map V.int) →
      sp w [.ref a] H (fun v _ => v = .bl true) fun _ _ _ => False)
    (hCX : ∀ (w : World) (H : Hp) (s : Shared) (e : Value) (s' : Shared), CX w [] H s (fun _ _ _ => False) e s' → False) :
    PySem.W.WalkO q loose XP YP l.row.toRowW d [] (fun f vs => PySem.call f vs) := by
  refine Att.attach_call hn hdf ?_
  intro w s₀ s₁ mg mb fa o pm cd doc a us ns G Y ho hd hcd hmg hobj hints hlen hg
  have kin := hY w _ Y
  obtain ⟨fd, hb, hF⟩ := F w mg fa _ kin G.T.g hmg
  exact law_callG kin G.T.g G.T.b G.T.builtins G.T.nolimit hg hobj hints (Nat.le_trans hlen hn2) hr hF hb
    (fun H hO hS => hsp w H a ns hlen hO hS) fun H e s' => hCX w H s₁ e s'
end Sn

/-! ## Words, names and paths, in plain Lean -/
namespace Sn
open PySem PySem.Spec PyProof.Rows L2 TL

def sgnS : Str := "abcdefghijklmnopqrstuvwxyz0123456789_"
def letS : Str := "abcdefghijklmnopqrstuvwxyz"
def resv : List Str := ["as", "ask", "call", "def", "each", "else", "entry", "except", "fail", "if", "in", "let", "offer", "return",
  "set", "table", "there", "try", "use"]
/-- a word: at most eight signs, all of them out of the alphabet -/
def isW (z : Str) : Bool := decide (z.length ≤ 8) && (tl z).all fun c => decide (c ∈ tl sgnS)
/-- its first sign is a letter -/
def fstL (z : Str) : Bool := match tl z with
  | [] => false
  | c :: _ => decide (c ∈ tl letS)
def isN (z : Str) : Bool := isW z && (fstL z && !decide (z ∈ resv))
def isP (z : Str) : Bool := decide ((Txt.split z ".").length = 2) && (Txt.split z ".").all isN

/-! ### a value that is one of some texts -/
theorem inV_strs (z : Str) : ∀ l : List Str, inV (.str z) (l.map V.str) = decide (z ∈ l)
  | [] => rfl
  | x :: l => by
    show ((x == z) || inV (.str z) (l.map V.str)) = _
    rw [inV_strs z l]
    by_cases h : z = x
    · subst h; simp
    · have h2 : (x == z) = false := by simpa using fun e => h e.symm
      rw [h2, Bool.false_or]
      exact decide_eq_decide.mpr ⟨fun q => List.mem_cons.mpr (.inr q), fun q => (List.mem_cons.mp q).resolve_left h⟩
theorem flat_strs : ∀ l : List Str, (l.map V.str).all flatV = true
  | [] => rfl
  | x :: l => by
    show (true && (l.map V.str).all flatV) = true
    rw [flat_strs l]; rfl
theorem signs_map (l : List Nat) : (l.map fun c => V.str ⟨#[c]⟩) = ((l.map fun c => (⟨#[c]⟩ : Str)).map V.str) := by
  rw [List.map_map]; rfl
theorem cut1 (z : Str) : tl (cutS z none (some 1)) = (tl z).take 1 := by
  unfold cutS
  rw [show HT.sIx z.length z.length (some 1) = min 1 z.length from HT.sIx_nat _ _ 1, HT.sIx_none]
  show ((tl z).drop 0).take (min 1 z.length - 0) = _
  rw [List.drop_zero, Nat.sub_zero, len_tl, List.take_eq_take_iff]
  omega
theorem one_inj {c : Nat} {l : List Nat} : (⟨#[c]⟩ : Str) ∈ l.map (fun c => (⟨#[c]⟩ : Str)) ↔ c ∈ l := by
  constructor
  · intro h
    obtain ⟨x, hx, e⟩ := List.mem_map.mp h
    injection e with e
    have : x = c := by injection (congrArg Array.toList e)
    exact this ▸ hx
  · intro h; exact List.mem_map.mpr ⟨c, h, rfl⟩
/-- value[:1] in tuple(LETTERS) -/
theorem fst_in (z : Str) : inV (.str (cutS z none (some 1))) ((tl letS).map fun c => V.str ⟨#[c]⟩) = fstL z := by
  rw [signs_map, inV_strs]
  unfold fstL
  have h := cut1 z
  match e : tl z with
  | [] =>
    rw [e] at h
    rw [decide_eq_false_iff_not]
    intro hm
    obtain ⟨x, _, e2⟩ := List.mem_map.mp hm
    rw [← e2] at h
    cases h
  | c :: r =>
    rw [e] at h
    have e2 : cutS z none (some 1) = ⟨#[c]⟩ := ext_tl h
    rw [e2]
    exact decide_eq_decide.mpr one_inj

/-! ### the two readings of a path -/
theorem spl_ne (S : List Nat) : ∀ (l : List Nat) (k : Nat) (acc : List Nat), spl S k acc l ≠ []
  | [], k, acc => by rw [spl_nil]; simp
  | c :: r, 0, acc => by
    unfold spl
    split
    · simp
    · exact spl_ne S r 0 _
  | c :: r, k + 1, acc => by
    unfold spl
    exact spl_ne S r k acc
theorem cut_at {x : Nat} : ∀ {l : List Nat}, x ∈ l → ∃ a b, l = a ++ x :: b ∧ x ∉ a
  | y :: l, h => by
    by_cases e : x = y
    · exact ⟨[], l, by rw [e]; rfl, by simp⟩
    · have h2 : x ∈ l := by
        rcases List.mem_cons.mp h with q | q
        · exact absurd q e
        · exact q
      obtain ⟨a, b, e1, e2⟩ := cut_at h2
      exact ⟨y :: a, b, by rw [e1]; rfl, by
        intro q
        rcases List.mem_cons.mp q with q | q
        · exact e q
        · exact e2 q⟩
def dotS : Str := "."
theorem tl_dot : tl dotS = [46] := by decide +kernel
theorem dot_eq : dotS = ⟨#[46]⟩ := by decide +kernel
theorem split_tl (z : Str) : (Txt.split z dotS).map tl = spl [46] 0 [] (tl z) := by
  have h := split_spl z dotS (by rw [tl_dot]; simp) (kind_ok (by decide +kernel))
  rw [tl_dot] at h
  exact h
theorem spl_le (S : List Nat) : ∀ (l : List Nat) (k : Nat) (acc q : List Nat), q ∈ spl S k acc l → q.length ≤ acc.length + l.length
  | [], k, acc, q, h => by
    rw [spl_nil] at h
    rw [List.mem_singleton.mp h]; simp
  | c :: r, 0, acc, q, h => by
    unfold spl at h
    split at h
    · rcases List.mem_cons.mp h with h | h
      · rw [h]; simp
      · have := spl_le S r _ _ q h
        simp only [List.length_nil, List.length_cons] at this ⊢
        omega
    · have := spl_le S r _ _ q h
      simp only [List.length_append, List.length_cons, List.length_nil] at this ⊢
      omega
  | c :: r, k + 1, acc, q, h => by
    unfold spl at h
    have := spl_le S r _ _ q h
    simp only [List.length_cons]
    omega
theorem split_le (z : Str) : ∀ y ∈ Txt.split z dotS, y.length ≤ z.length := by
  intro y hy
  have h : tl y ∈ spl [46] 0 [] (tl z) := by
    rw [← split_tl]
    exact List.mem_map.mpr ⟨y, hy, rfl⟩
  have := spl_le _ _ _ _ _ h
  rw [len_tl, len_tl z]
  simpa using this
theorem split_no {z : Str} (h : 46 ∉ tl z) : Txt.split z dotS = [z] := by
  apply map_tl_inj
  rw [split_tl, spl_last1 h]
  rfl
theorem split_one {z : Str} {a b : List Nat} (e : tl z = a ++ 46 :: b) (h : 46 ∉ a) :
    (Txt.split z dotS).map tl = a :: spl [46] 0 [] b := by
  rw [split_tl, e]
  exact spl_part1 (s := 46) (S := []) (p := a) (rest := b) (acc := []) h
theorem find_dot {z : Str} {a b : List Nat} (e : tl z = a ++ 46 :: b) (h : 46 ∉ a) : Txt.find z dotS = (a.length : Int) := by
  have ne : tl dotS ≠ [] := by rw [tl_dot]; simp
  have hit : StrLaws.At z dotS z.length a.length := by
    refine (at_iff ne _).mpr ?_
    rw [tl_dot, e, List.drop_left]
    show (List.take 1 (46 :: b) == [46]) = true
    simp
  have miss : ∀ k, k < a.length → ¬ StrLaws.At z dotS z.length k := by
    intro k hk hA
    have q := (at_iff ne k).mp hA
    rw [tl_dot, e, free_of h k hk] at q
    cases q
  rcases find_whole z dotS with ⟨_, h2⟩ | ⟨i, h1, h2, h3⟩
  · exact absurd hit (h2 _)
  · rw [h1]
    by_cases hlt : i < a.length
    · exact absurd h2 (miss i hlt)
    · by_cases hgt : a.length < i
      · exact absurd hit (h3 _ hgt)
      · rw [show i = a.length by omega]
theorem cut_lo {z : Str} {a b : List Nat} (e : tl z = a ++ 46 :: b) : tl (cutS z none (some (a.length : Int))) = a := by
  unfold cutS
  rw [HT.sIx_nat, HT.sIx_none]
  show ((tl z).drop 0).take (min a.length z.length - 0) = a
  rw [len_tl, e, List.drop_zero, Nat.sub_zero, List.length_append, Nat.min_eq_left (Nat.le_add_right _ _), List.take_left]
theorem cut_hi {z : Str} {a b : List Nat} (e : tl z = a ++ 46 :: b) : tl (cutS z (some ((a.length : Int) + 1)) none) = b := by
  unfold cutS
  rw [show ((a.length : Int) + 1) = ((a.length + 1 : Nat) : Int) from rfl, HT.sIx_nat, HT.sIx_none]
  show ((tl z).drop (min (a.length + 1) z.length)).take (z.length - min (a.length + 1) z.length) = b
  rw [len_tl, e]
  have hl : min (a.length + 1) (a ++ 46 :: b).length = a.length + 1 := by
    rw [List.length_append, List.length_cons]; omega
  rw [hl, show a ++ 46 :: b = (a ++ [46]) ++ b by simp]
  have h2 : (a ++ [46]).length = a.length + 1 := by simp
  rw [← h2, List.drop_left, List.length_append, Nat.add_sub_cancel_left, List.take_length]
theorem cnt_app (c : Nat) : ∀ l r : List Nat, cnt c (l ++ r) = cnt c l + cnt c r := cnt_append c
/-- the law's own reading of a path -/
def lawP (z : Str) : Bool := if Txt.count z dotS = 1 then isN (cutS z none (some (Txt.find z dotS))) && isN (cutS z (some (Txt.find z dotS + 1)) none) else false
theorem cnt_nonneg (c : Nat) : ∀ l : List Nat, 0 ≤ cnt c l
  | [] => by rw [cnt_nil]; exact Int.le_refl 0
  | x :: l => by
    have h := cnt_nonneg c l
    rw [cnt_cons]
    split <;> omega
theorem cnt_free {c : Nat} {l : List Nat} (h : c ∉ l) : cnt c l = 0 := cnt_none c l h
theorem cnt_dot : cnt 46 [46] = 1 := by rw [cnt_cons, cnt_nil]; simp
theorem path_law (z : Str) : lawP z = isP z := by
  unfold lawP isP
  rw [show (Str.ofString "." : Str) = dotS from rfl]
  have hc : Txt.count z dotS = cnt 46 (tl z) := by rw [dot_eq]; exact count_cnt z 46
  by_cases h : 46 ∈ tl z
  · obtain ⟨a, b, e, na⟩ := cut_at h
    have c1 : cnt 46 (tl z) = 1 + cnt 46 b := by
      rw [e, show a ++ 46 :: b = a ++ ([46] ++ b) from rfl, cnt_app, cnt_app, cnt_free na, cnt_dot]
      omega
    have sp := split_one e na
    by_cases hb : 46 ∈ b
    · obtain ⟨b1, b2, e2, nb⟩ := cut_at hb
      have c2 : cnt 46 b = 1 + cnt 46 b2 := by
        rw [e2, show b1 ++ 46 :: b2 = b1 ++ ([46] ++ b2) from rfl, cnt_app, cnt_app, cnt_free nb, cnt_dot]
        omega
      have := cnt_nonneg 46 b2
      rw [if_neg (by omega)]
      have sp2 : spl [46] 0 [] b = b1 :: spl [46] 0 [] b2 := by
        rw [e2]
        exact spl_part1 (s := 46) (S := []) (p := b1) (rest := b2) (acc := []) nb
      have hl : (Txt.split z dotS).length ≠ 2 := by
        intro q
        have q2 := congrArg List.length sp
        rw [List.length_map, q, sp2] at q2
        have q3 : (spl [46] 0 [] b2).length = 0 := by
          simp only [List.length_cons] at q2
          omega
        exact spl_ne _ _ _ _ (List.length_eq_zero_iff.mp q3)
      rw [decide_eq_false hl, Bool.false_and]
    · have c2 : cnt 46 b = 0 := cnt_free hb
      rw [if_pos (by omega), find_dot e na]
      have sp2 : spl [46] 0 [] b = [b] := spl_last1 (s := 46) (S := []) (p := b) (acc := []) hb
      have e1 : Txt.split z dotS = [cutS z none (some (a.length : Int)), cutS z (some ((a.length : Int) + 1)) none] := by
        apply map_tl_inj
        rw [sp, sp2]
        show [a, b] = [tl _, tl _]
        rw [cut_lo e, cut_hi e]
      rw [e1]
      simp
  · have c0 : cnt 46 (tl z) = 0 := cnt_free h
    rw [if_neg (by omega), split_no h]
    rfl

/-! ### drawn names -/
def sufS : List Str := ["s", "_", "1", "a"]
theorem near_ok : ∀ r ∈ resv, ∀ x ∈ sufS, isN (r ++ x) = true := by decide +kernel
theorem resv_len : ∀ r ∈ resv, r.length ≤ 6 := by decide +kernel
theorem suf_len : ∀ r ∈ sufS, r.length ≤ 1 := by decide +kernel
theorem resv_no : ∀ r ∈ resv, 95 ∉ tl r := by decide +kernel
theorem let_sgn : ∀ c ∈ tl letS, c ∈ tl sgnS := by decide +kernel
theorem und_sgn : 95 ∈ tl sgnS := by decide +kernel
theorem isN_len {z : Str} (h : isN z = true) : z.length ≤ 8 := by
  unfold isN isW at h
  simp only [Bool.and_eq_true, decide_eq_true_eq] at h
  exact h.1.1
theorem isN_res {z : Str} (h : isN z = true) : z ∉ resv := by
  unfold isN at h
  simp only [Bool.and_eq_true, Bool.not_eq_true', decide_eq_false_iff_not] at h
  exact h.2.2
theorem isN_of {z : Str} {c : Nat} {r : List Nat} (e : tl z = c :: r) (hc : c ∈ tl letS) (hr : ∀ x ∈ r, x ∈ tl sgnS) (hl : r.length ≤ 7) (hn : z ∉ resv) : isN z = true := by
  have h1 : isW z = true := by
    unfold isW
    rw [len_tl, e]
    simp only [Bool.and_eq_true, decide_eq_true_eq, List.length_cons, List.all_cons, List.all_eq_true]
    exact ⟨by omega, let_sgn c hc, hr⟩
  have h2 : fstL z = true := by
    unfold fstL
    rw [e]
    exact decide_eq_true hc
  unfold isN
  rw [h1, h2, decide_eq_false hn]; rfl
theorem cut7 (z : Str) : tl (cutS z none (some 7)) = (tl z).take 7 := by
  unfold cutS
  rw [show HT.sIx z.length z.length (some 7) = min 7 z.length from HT.sIx_nat _ _ 7, HT.sIx_none]
  show ((tl z).drop 0).take (min 7 z.length - 0) = _
  rw [List.drop_zero, Nat.sub_zero, len_tl, List.take_eq_take_iff]
  omega
theorem isN_cut {z : Str} {c : Nat} {r : List Nat} (e : tl z = c :: r) (hc : c ∈ tl letS) (hr : ∀ x ∈ r, x ∈ tl sgnS) : isN (cutS z none (some 7) ++ "_") = true := by
  have e2 : tl (cutS z none (some 7) ++ "_") = c :: (r.take 6 ++ [95]) := by
    rw [tl_append, cut7, e, show tl ("_" : Str) = [95] by decide +kernel]; rfl
  refine isN_of e2 hc (fun x hx => ?_) (by rw [List.length_append, List.length_take]; show min 6 r.length + 1 ≤ 7; omega) fun hm => ?_
  · rcases List.mem_append.mp hx with h | h
    · exact hr x (List.mem_of_mem_take h)
    · rw [List.mem_singleton.mp h]; exact und_sgn
  · exact resv_no _ hm (by rw [e2]; simp)
theorem join_signs : ∀ l : List Nat, tl (Txt.join "" (l.map fun c => (⟨#[c]⟩ : Str))) = l := by
  intro l
  rw [join_eq, tl_join, List.map_map]
  have e : tl ("" : Str) = [] := by decide +kernel
  rw [e]
  have key : ∀ l : List Nat, joinL [] (l.map (tl ∘ fun c => (⟨#[c]⟩ : Str))) = l := by
    intro l
    induction l with
    | nil => rfl
    | cons a r ih =>
      cases r with
      | nil => rfl
      | cons b r =>
        show [a] ++ ([] ++ joinL [] _) = a :: b :: r
        rw [List.nil_append]
        exact congrArg (a :: ·) ih
  exact key l
end Sn

/-! ## Sorted texts without repetition -/
namespace Sn
open PySem PySem.Spec PyProof.Rows L2 TL
def ltS (a b : Str) : Prop := ltCps (tl a) (tl b) = true
theorem lt_irr : ∀ l : List Nat, ltCps l l = false
  | [] => rfl
  | a :: r => by simp [ltCps, lt_irr r]
theorem lt_trans : ∀ {a b c : List Nat}, ltCps a b = true → ltCps b c = true → ltCps a c = true
  | [], [], _, h, _ => by simp [ltCps] at h
  | [], _ :: _, [], _, h => by simp [ltCps] at h
  | [], _ :: _, _ :: _, _, _ => by simp [ltCps]
  | _ :: _, [], _, h, _ => by simp [ltCps] at h
  | _ :: _, _ :: _, [], _, h => by simp [ltCps] at h
  | x :: a, y :: b, z :: c, h, k => by
    simp only [ltCps, Bool.or_eq_true, Bool.and_eq_true, decide_eq_true_eq, beq_iff_eq] at h k ⊢
    rcases h with h | ⟨e, h⟩ <;> rcases k with k | ⟨e2, k⟩
    · exact .inl (by omega)
    · exact .inl (by omega)
    · exact .inl (by omega)
    · exact .inr ⟨by omega, lt_trans h k⟩
theorem lt_tri : ∀ {a b : List Nat}, ltCps a b = false → ltCps b a = false → a = b
  | [], [], _, _ => rfl
  | [], _ :: _, h, _ => by simp [ltCps] at h
  | _ :: _, [], _, h => by simp [ltCps] at h
  | x :: a, y :: b, h, k => by
    simp only [ltCps, Bool.or_eq_false_iff, Bool.and_eq_false_iff, decide_eq_false_iff_not, beq_eq_false_iff_ne] at h k
    have e : x = y := by omega
    subst e
    rw [lt_tri (h.2.resolve_left (by simp)) (k.2.resolve_left (by simp))]
/-- strictly rising -/
abbrev Ris (l : List Str) : Prop := l.Pairwise ltS
theorem ris_of : ∀ (l : List Str), sortedS l = true → l.Nodup → Ris l
  | [], _, _ => .nil
  | [a], _, _ => List.pairwise_singleton _ _
  | a :: b :: r, h, n => by
    have h1 : risingS a (b :: r) = true := h
    unfold risingS at h1
    simp only [Bool.and_eq_true, Bool.not_eq_true'] at h1
    have n2 := List.nodup_cons.mp n
    have ih := ris_of (b :: r) h1.2 n2.2
    have hab : ltS a b := by
      unfold ltS
      cases e : ltCps (tl a) (tl b) with
      | true => rfl
      | false => exact absurd (ext_tl (lt_tri e h1.1)) (fun q => n2.1 (q ▸ List.mem_cons.mpr (.inl rfl)))
    refine List.pairwise_cons.mpr ⟨fun x hx => ?_, ih⟩
    rcases List.mem_cons.mp hx with rfl | hx
    · exact hab
    · exact lt_trans hab ((List.pairwise_cons.mp ih).1 x hx)
theorem ris_eq : ∀ {l r : List Str}, Ris l → Ris r → (∀ z, z ∈ l ↔ z ∈ r) → l = r
  | [], [], _, _, _ => rfl
  | [], b :: r, _, _, h => absurd ((h b).mpr (List.mem_cons.mpr (.inl rfl))) (by simp)
  | a :: l, [], _, _, h => absurd ((h a).mp (List.mem_cons.mpr (.inl rfl))) (by simp)
  | a :: l, b :: r, p, q, h => by
    have p1 := List.pairwise_cons.mp p
    have q1 := List.pairwise_cons.mp q
    have irr : ∀ x : Str, ¬ ltS x x := fun x e => by unfold ltS at e; rw [lt_irr] at e; cases e
    have e : a = b := by
      rcases List.mem_cons.mp ((h a).mp (List.mem_cons.mpr (.inl rfl))) with e | h1
      · exact e
      · rcases List.mem_cons.mp ((h b).mpr (List.mem_cons.mpr (.inl rfl))) with e | h2
        · exact e.symm
        · exact absurd (lt_trans (p1.1 b h2) (q1.1 a h1)) (irr a)
    subst e
    refine congrArg (a :: ·) (ris_eq p1.2 q1.2 fun z => ⟨fun hz => ?_, fun hz => ?_⟩)
    · rcases List.mem_cons.mp ((h z).mp (List.mem_cons.mpr (.inr hz))) with e | h1
      · exact absurd (e ▸ p1.1 z hz) (irr a)
      · exact h1
    · rcases List.mem_cons.mp ((h z).mpr (List.mem_cons.mpr (.inr hz))) with e | h1
      · exact absurd (e ▸ q1.1 z hz) (irr a)
      · exact h1
theorem ris_nodup {l : List Str} (h : Ris l) : l.Nodup := List.Pairwise.imp (fun {a b} q e => by subst e; unfold ltS at q; rw [lt_irr] at q; cases q) h
/-- the keys of a dict whose values do not matter: each once, in the order of their first coming -/
def once (l : List Str) : List Str := l.foldl (fun acc z => if z ∈ acc then acc else acc ++ [z]) []
end Sn

/-! ## Rules of our own: enumerate(tuple), own __len__, __contains__, operators, != -/
namespace Sn
open PySem PySem.Spec PyProof.Rows L2

/-! ### enumerate of a tuple -/
theorem enum_newT (l : Addr) (items : Array Value) (n : Nat) (dct : Option Addr) (sl : Array (Option Value)) :
    Meets (Builtin.«enumerate.__new__» ⟨[.type "enumerate", .ref l], []⟩) (fun _ R s =>
      s.heap.get? l = some { cls := .type "tuple", dict := dct, data := .seq items n, slots := sl } ∧
      R (.ok (.ret (.ref (s.heap.push { cls := .type "tuple_iterator", data := .fields #[.ref l, .int 0 0] }).objs.size)))
        { s with heap := (s.heap.push { cls := .type "tuple_iterator", data := .fields #[.ref l, .int 0 0] }).push { cls := .type "enumerate", data := .fields #[.none, .bool false, .ref s.heap.objs.size, rawInt 0, .none, .none] } }) :=
  .of_wp fun prog w A R s h => by
    obtain ⟨hp, g, d, tk, os⟩ := s
    obtain ⟨hl, h⟩ := h
    have hsub := sub_enumerate
    have hT : Heap.IsTuple (Shared.heap ⟨hp, g, d, tk, os⟩) l items := ⟨_, hl, rfl, n, rfl⟩
    wp_walk using AutoSeq1.wpAny_loadPart' hl
    refine wpAny_stack_any fun st => wpAny_pure ?_
    split
    · rename_i c _ _ _ _ _
      cases (c == Value.type "enumerate") <;> (wp_walk using AutoSeq1.wpAny_loadPart' hl, wpAny_pyIter_tuple hT; exact ⟨_, rfl, h⟩)
    · wp_walk using AutoSeq1.wpAny_loadPart' hl, wpAny_pyIter_tuple hT
      exact ⟨_, rfl, h⟩
section
variable {prog : Program} {w : World} {A : Around} {E : Value → Shared → Prop} {s : Shared}
theorem call_enumT {l : Addr} {items : Array Value} {Q : Value → Shared → Prop} (hL : s.heap.IsTuple l items)
    (h : ∀ h', IsEnum h' (s.heap.objs.size + 1) s.heap.objs.size 0 .none → h'.IsTupleIter s.heap.objs.size l 0 →
      h'.objs.size = s.heap.objs.size + 2 → (∀ b o, s.heap.get? b = some o → h'.get? b = some o) →
      Q (.ref (s.heap.objs.size + 1)) { s with heap := h' }) :
    wpAny (model prog w) A (call (.type "enumerate") [.ref l]) Q E s := by
  obtain ⟨⟨c, dct, dt, sl⟩, hl, hc, n, hd⟩ := hL
  have hc2 : c = .type "tuple" := hc
  have hd2 : dt = .seq items n := hd
  subst hc2 hd2
  refine callType_new F.called_enumerate (by decide) (F.typeCall_enumerate_1 _) (F.newCall_enumerate_1 _)
    (fun obj => F.args_object_init_2 obj _) F.entry_enumerate_new (enum_newT l items n dct sl) ⟨hl, ?_⟩
  generalize eo : ({ cls := .type "tuple_iterator", data := .fields #[.ref l, .int 0 0] } : Obj) = o1
  generalize ee : ({ cls := .type "enumerate", data := .fields #[.none, .bool false, .ref s.heap.objs.size, rawInt 0, .none, .none] } : Obj) = o2
  have hz : (s.heap.push o1).objs.size = s.heap.objs.size + 1 := Heap.size_push ..
  have g2 : ((s.heap.push o1).push o2).get? (s.heap.objs.size + 1) = some o2 := by
    have q := Heap.get?_push_size (s.heap.push o1) (o := o2) (by rw [← ee]; rfl)
    rw [hz] at q
    exact q
  have g1 : ((s.heap.push o1).push o2).get? s.heap.objs.size = some o1 :=
    Heap.get?_push_of_some _ (Heap.get?_push_size _ (by rw [← eo]; rfl))
  show _ ∧ _
  rw [hz]
  refine ⟨⟨o2, g2, by rw [← ee]⟩, h _ ?_ ⟨o1, g1, by rw [← eo], by rw [← eo]; rfl⟩ (by rw [Heap.size_push, hz]) fun b o q => Heap.get?_push_of_some _ (Heap.get?_push_of_some _ q)⟩
  show _ = some _
  rw [g2, ← ee]
end
def Iet (K : PySem.W.Frag) (a : Addr) : It :=
  ⟨fun i H => ∃ (xs : List V) (x : V), SqT K H a xs ∧ xs[i]? = some x,
   fun i H v H' => ∃ T x, v = .ref T ∧ H T = none ∧ H' = upd H T (.tup [.int (i : Nat), x]) ∧ ∀ xs, SqT K H a xs → xs[i]? = some x,
   fun i H => ∃ xs : List V, SqT K H a xs ∧ xs.length ≤ i⟩
theorem turn_enumT {P : Program} {w : World} {K : PySem.W.Frag} {elts : List Expr} {kk : Nat} {tpos : Pos} (a e it : Addr) :
    Turn P w K (.Tuple elts kk tpos) (Iet K a) [e, it] e (fun i h => (∃ old, IsEnum h e it ((i : Nat) : Int) old) ∧ h.IsTupleIter it a i ∧ e ≠ it ∧ a ≠ it ∧ e ≠ a) where
  mem := by simp
  obj := fun i h st b hb => by
    obtain ⟨⟨old, he⟩, ⟨o, ho, hc, hd⟩, _⟩ := st
    have e' : b = e ∨ b = it := by simpa using hb
    rcases e' with rfl | rfl
    · exact ⟨_, he, fun v q => nomatch q⟩
    · exact ⟨o, ho, fun v q => by rw [hd] at q; cases q⟩
  keep := fun i h h' st k => let ⟨⟨old, he⟩, hi, hne⟩ := st; ⟨⟨old, k e (by simp) _ he⟩, hi.at fun o q => k it (by simp) o q, hne⟩
  item := by
    intro X hP hw hK hc i pins s σ H E I hf st hg
    subst hP hw hK
    obtain ⟨⟨old, he⟩, hit, hne, hai, hea⟩ := st
    obtain ⟨xs, x, hq, hx⟩ := hg
    obtain ⟨its, rv, p, hz⟩ := I.tuple hq
    obtain ⟨u, hu, ru⟩ := rv.get hx
    have hel : e < s.heap.objs.size := Heap.lt_size he
    have hil : it < s.heap.objs.size := by obtain ⟨_, q, _⟩ := hit; exact Heap.lt_size q
    have hlt : i < its.toArray.size := by
      have := (List.getElem?_eq_some_iff.mp hu).1
      simpa using this
    have pT : s.heap.IsTuple a its.toArray := p
    refine wpAny_pyNext_enum_itemD (Draws.tuple (A := X.A.in1) (I.ok.hd hc) it a hai its.toArray) he ⟨hit, pT⟩ hlt hne (by simp [hne, hea]) ?_
    intro u2 h' tk hu2 ho st2 hT hsz hk
    have eu : u2 = u := by
      have q : its.toArray[i]? = some u := by simpa using hu
      exact Option.some.inj (hu2.symm.trans q)
    subst eu
    refine ⟨_, rfl, wpAny_letOwnedTupleGo_enum (s := { s with heap := h', toks := tk + 1 }) ho fun h2 he' sb => ?_⟩
    have hT2 : h2.get? s.heap.objs.size = some { cls := .type "tuple", data := .seq #[.int i tk, u2] } := (sb.2 _ (Nat.ne_of_gt hel)).trans hT
    have new : ObjOk X.prog X.w (upd H s.heap.objs.size (.tup [.int (i : Nat), x])) h2 s.heap.objs.size (.tup [.int (i : Nat), x]) :=
      ⟨by show 2 ≤ sizeLine; decide, [.int i tk, u2], .cons ⟨_, rfl⟩ (.cons ru .nil), ⟨_, hT2, rfl, _, rfl⟩⟩
    have I1 : Inv X pins σ (upd H s.heap.objs.size (.tup [.int (i : Nat), x])) { s with heap := h2, toks := tk + 1 } :=
      I.turnedNew (ch := [e, it]) (fun b ob hb q => (sb.2 b (fun z => hb (by simp [z]))).trans (hk b ob (fun z => hb (by simp [z])) (fun z => hb (by simp [z])) q)) hf (Nat.le_refl _) new
    refine ⟨.ref s.heap.objs.size, _, I1, rfl, ⟨_, x, rfl, I.hok.fresh (Nat.le_refl _), rfl, fun ys hy => by rw [I.tuple_inj hy hq]; exact hx⟩, ⟨⟨u2, ?_⟩, st2.1.at fun o q => (sb.2 it (Ne.symm hne)).trans q, hne, hai, hea⟩, fun b hb => ?_⟩
    · have e1 : ((i + 1 : Nat) : Int) = (i : Int) + 1 := by omega
      rw [e1]; exact he'
    · have e' : b = e ∨ b = it := by simpa using hb
      have hb' : b < s.heap.objs.size := by rcases e' with rfl | rfl <;> assumption
      rw [upd_ne (Nat.ne_of_lt hb')]
      exact (hf b hb).1
  done := by
    intro X hP hw hK hc i pins s σ H E I hf st hg
    subst hP hw hK
    obtain ⟨⟨old, he⟩, hit, hne, hai, hea⟩ := st
    obtain ⟨xs, hq, hx⟩ := hg
    obtain ⟨its, rv, p, hz⟩ := I.tuple hq
    obtain ⟨f0, f1, f2, f3, f4, f5⟩ := hf it (by simp)
    have hl := rv.length
    have pT : s.heap.IsTuple a its.toArray := p
    have hT : s.TypeIs (.ref e) "enumerate" := ⟨_, he, rfl⟩
    unfold pyNext
    refine wpAny_bind (wpAny_attempt (wpAny_callSpecial?_slot (name := Str.ofString "__next__") hT F.slot_enumerate_next
      (wpAny_call_entry F.slot_enumerate_next hT F.entry_enumerate_next ?_ (F.args_enumerate_next_1 _))))
    show wpAny _ _ (field (.ref e) 2 >>= _) _ _ _
    refine wpAny_bind (wpAny_field he rfl (x := .ref it) rfl (wpAny_bind (wpAny_nextOf_tuple_end (I.ok.hd hc) hit pT (by simp; omega) ?_)))
    intro h' y he' hx'
    obtain ⟨o, ho, hco⟩ := hx'
    refine wpAny_bind (wpAny_isInstance (T := "StopIteration") (b := true) ⟨o, ho, hco⟩ isSubtype_stop ?_)
    exact wpAny_pure ⟨rfl, I.turned (t' := s.toks) (fun b o hb q => he' b o hb q) f0 f1 f3 f4 f5⟩
  self := fun A i s Q E st h => let ⟨⟨_, he⟩, _⟩ := st; wpAny_pyIter_enum he h

def iEnumT (K : PySem.W.Frag) (ta : TA) : TI := fun σ H R => ta σ H fun vs H1 => ∃ a xs, vs = [.ref a] ∧ SqT K H1 a xs ∧ R (Iet K a) H1
theorem pi_enumT {X : Cx} {e : Expr} {ta : TA} {p pos tpos : Pos} {elts : List Expr} {kk : Nat} (hg : Gl X "enumerate") (hm : X.mg "enumerate" = none)
    (ha : PA X [e] ta) (hs : starEach [e] X.env = [(false, eval e X.env)] := by rfl) :
    PI X (.Tuple elts kk tpos) (.Call (.Name "enumerate" p) [e] [] pos) (iEnumT X.K ta) := by
  refine ⟨fun pins s σ H R I h => ?_⟩
  refine Call_ (ld_blt I hg hm boot_enumerate (PyProof.Rows.callWith_type1 (thn (ha.run pos pins s σ H _ I h) ?_) hs rfl))
  rintro us s1 ⟨vs, H1, I1, r1, a, xs, rfl, hq, q⟩
  match us, r1 with
  | [u], .cons r .nil =>
    cases r
    obtain ⟨its, rv, pt, hz⟩ := I1.tuple hq
    have alt : a < s1.heap.objs.size := by
      obtain ⟨o, ho, _⟩ := pt
      exact Heap.lt_size ho
    refine call_enumT pt fun h' he hit hsz hk => wpAny_pyIter_enum he ?_
    have I2 : Inv X pins σ H1 { s1 with heap := h' } := I1.kept (t' := s1.toks) hk
    refine ⟨s1.heap.objs.size + 1, [s1.heap.objs.size + 1, s1.heap.objs.size], _, _, H1, rfl, I2, turn_enumT a (s1.heap.objs.size + 1) s1.heap.objs.size,
      ⟨⟨.none, he⟩, hit, Nat.succ_ne_self _, Nat.ne_of_lt alt, Nat.ne_of_gt (Nat.lt_succ_of_lt alt)⟩, fun b hb => ?_, q⟩
    have hle : s1.heap.objs.size ≤ b := by
      have e' : b = s1.heap.objs.size + 1 ∨ b = s1.heap.objs.size := by simpa using hb
      rcases e' with rfl | rfl
      · exact Nat.le_add_right _ _
      · exact Nat.le_refl _
    exact I1.fpOk hle (I1.hok.fresh hle)
theorem walk_enumT {K : PySem.W.Frag} {a : Addr} {xs : List V} : Walk (Iet K a) xs.length (fun H => SqT K H a xs) (YPair (fun i => some (.int (i : Nat))) (fun i => xs[i]?)) := by
  refine ⟨fun i _ hi q => ⟨xs, xs[i], q, by simp [hi]⟩, fun _ q => ⟨xs, q, Nat.le_refl _⟩, fun i H v H' _ q y => ?_⟩
  obtain ⟨T, x, h1, h2, h3, h4⟩ := y
  exact ⟨T, .int (i : Nat), x, h1, h2, h3, rfl, h4 xs q⟩

/-! ### an own class's special methods -/
section
variable {X : Cx} {CX : CXT} {k : Nat} {f C : Addr} {fd : FuncData} {ps : List Str} {sp : Sp} {E : XK}
/-- an instance of C stands there -/
theorem inst_at {pins : List (Addr × Obj)} {σ : L2.St} {H : Hp} {s : Shared} {a dx : Addr} {fs : List (Str × V)} (I : Inv X pins σ H s) (h : H a = some (.ins C dx fs)) :
    ∃ ox od, PySem.W.InstAt s.heap a ox C od := by
  obtain ⟨mA, J, _⟩ := ins_get I.hok h
  obtain ⟨od, J, _⟩ := J.look
  exact ⟨_, _, J⟩
/-- x in o, by an own __contains__ -/
theorem own_in (F : FnOk X.prog X.w X.K X.mg X.base CX k f fd ps sp) (hr : Room k X.A) (hs : PySem.W.findIn X.K (.ref C) "__contains__" = some (some (.ref f)))
    (hf : PySem.W.isFn X.K (.ref f) = true) (hb : Binds X.K fd ps []) (hx : Passes CX X E) :
    OpR X (compareOp .In) (fun x y H Q => ∃ a dx fs, y = .ref a ∧ H a = some (.ins C dx fs) ∧ sp [y, x] H (fun v H' => ∃ b, v = .bl b ∧ Q (.bl b) H') E) := by
  intro pins s σ H x y v u Q I rx ry h
  obtain ⟨a, dx, fs, rfl, ha, q⟩ := h
  cases ry
  obtain ⟨ox, od, J⟩ := inst_at I ha
  obtain ⟨m, hF⟩ := I.fr
  refine PySem.W.in_K hF I.ok.mod.kin J hs hf ?_
  refine wpAny_mono (run_fn (us := [.ref a, v]) (vs := [.ref a, x]) F hr hb .nil hx I (.cons rfl (.cons rx .nil)) q) ?_ fun _ _ z => z
  rintro r s' ⟨z, H', I', rz, b, rfl, qq⟩
  cases rz
  exact wpAny_truthy_bool ⟨.bl b, H', I', rfl, qq⟩
/-- o op p, both of C, by an own operator -/
theorem own_bin {op : Operator} (F : FnOk X.prog X.w X.K X.mg X.base CX k f fd ps sp) (hr : Room k X.A) (hc : PySem.W.selfFirst X.K C = true)
    (hs : PySem.W.findIn X.K (.ref C) (PySem.dunder op.info.2) = some (some (.ref f))) (hf : PySem.W.isFn X.K (.ref f) = true) (hb : Binds X.K fd ps []) (hx : Passes CX X E) :
    OpR X (binaryOp op) (fun x y H Q => ∃ a b dx dy fs gs, x = .ref a ∧ y = .ref b ∧ H a = some (.ins C dx fs) ∧ H b = some (.ins C dy gs) ∧ sp [x, y] H Q E) := by
  intro pins s σ H x y v u Q I rx ry h
  obtain ⟨a, b, dx, dy, fs, gs, rfl, rfl, ha, hb', q⟩ := h
  cases rx
  cases ry
  obtain ⟨ox, od, J⟩ := inst_at I ha
  obtain ⟨oy, oe, J'⟩ := inst_at I hb'
  obtain ⟨m, hF⟩ := I.fr
  refine PySem.W.binop_K hF I.ok.mod.kin J J'.type hc hs hf ?_
  refine wpAny_mono (run_fn (us := [.ref a, .ref b]) (vs := [.ref a, .ref b]) F hr hb .nil hx I (.cons rfl (.cons rfl .nil)) q) ?_ fun _ _ z => z
  rintro r s' ⟨z, H', I', rz, qq⟩
  have fin : EP X pins σ Q r s' := ⟨z, H', I', rz, qq⟩
  cases r with
  | notImplemented => cases z <;> first | (cases rz; done) | (obtain ⟨t, e⟩ := rz; cases e)
  | _ => exact fin
/-- what runs one level deeper -/
theorem run_in1 {pins : List (Addr × Obj)} {σ : L2.St} {H : Hp} {s : Shared} {Q : VK} {us : List Value} {vs : List V} (F : FnOk X.prog X.w X.K X.mg X.base CX k f fd ps sp) (hr : Room (k + 1) X.A)
    (hb : Binds X.K fd ps []) (hx : Passes CX X E) (I : Inv X pins σ H s) (r : Vals vs us) (h : sp vs H Q E) :
    wpAny (model X.prog X.w) X.A.in1 (call (.ref f) us) (EP X pins σ Q) X.xe s := by
  have hl : (us ++ []).length = ps.length := by rw [List.append_nil, ← r.length]; exact F.len _ _ _ _ h
  have hbi := hb s us I.kIn hl
  rw [List.append_nil] at hbi
  refine wpAny_call (codeAny_mono (F.run X.A.in1 X.stack s H ⟨us, []⟩ us vs Q E hr.in1 I.env0.in1 hbi r h) ?_)
  intro r s' hq
  match r, hq with
  | .error e, hq => exact hx pins σ H s e s' I hq
  | .ok (.ret u), hq => exact I.after hq
  | .ok .next, hq => exact False.elim hq
  | .ok .brk, hq => exact False.elim hq
  | .ok .cont, hq => exact False.elim hq
/-- len(o), by an own __len__ -/
theorem own_len (F : FnOk X.prog X.w X.K X.mg X.base CX k f fd ps sp) (hr : Room (k + 1) X.A) (hs : PySem.W.findIn X.K (.ref C) "__len__" = some (some (.ref f)))
    (hf : PySem.W.isFn X.K (.ref f) = true) (hb : Binds X.K fd ps []) (hx : Passes CX X E) :
    CallR X (.builtin "len") (fun xs H Q => ∃ a dx fs, xs = [.ref a] ∧ H a = some (.ins C dx fs) ∧ sp [.ref a] H (fun v H' => ∃ n : Nat, n < 2 ^ 62 ∧ v = .int n ∧ Q (.int n) H') E) := by
  intro pins s σ H xs us Q I r h
  obtain ⟨a, dx, fs, rfl, ha, q⟩ := h
  obtain ⟨u, rfl, ru⟩ := vals1 r
  cases ru
  obtain ⟨ox, od, J⟩ := inst_at I ha
  obtain ⟨m, hF⟩ := I.fr
  refine PySem.W.len_K hF I.ok.mod.kin J hs hf ?_
  refine wpAny_mono (run_in1 (us := [.ref a]) (vs := [.ref a]) F hr hb hx I (.cons rfl .nil) q) ?_ fun _ _ z => z
  rintro r s' ⟨z, H', I', rz, n, hn, rfl, qq⟩
  obtain ⟨t, rfl⟩ := rz
  exact ⟨⟨by omega, by omega⟩, .int n, H', I'.tok _, ⟨_, rfl⟩, qq⟩
/-- o == p, both of C, by an own __eq__ -/
theorem own_eq (F : FnOk X.prog X.w X.K X.mg X.base CX k f fd ps sp) (hr : Room k X.A) (hs : PySem.W.findIn X.K (.ref C) "__eq__" = some (some (.ref f)))
    (hf : PySem.W.isFn X.K (.ref f) = true) (hb : Binds X.K fd ps []) (hx : Passes CX X E) :
    OpR X (compareOp .Eq) (fun x y H Q => ∃ a b dx dy fs gs, x = .ref a ∧ y = .ref b ∧ H a = some (.ins C dx fs) ∧ H b = some (.ins C dy gs) ∧ sp [x, y] H (fun v H' => ∃ b, v = .bl b ∧ Q (.bl b) H') E) := by
  intro pins s σ H x y v u Q I rx ry h
  obtain ⟨a, b, dx, dy, fs, gs, rfl, rfl, ha, hb', q⟩ := h
  cases rx
  cases ry
  obtain ⟨ox, od, J⟩ := inst_at I ha
  obtain ⟨oy, oe, J'⟩ := inst_at I hb'
  obtain ⟨m, hF⟩ := I.fr
  show wpAny (model X.prog X.w) X.A (richCompare .Eq (.ref a) (.ref b)) (EP X pins σ Q) X.xe s
  refine PySem.W.cmp_K (op := .Eq) (tb := .ref C) hr.units0 hF I.ok.mod.kin J J'.type (by simp [PySem.W.notFirst]) hs hf ?_
  refine wpAny_mono (run_fn (us := [.ref a, .ref b]) (vs := [.ref a, .ref b]) F hr hb .nil hx I (.cons rfl (.cons rfl .nil)) q) ?_ fun _ _ z => z
  rintro r s' ⟨z, H', I', rz, c, rfl, qq⟩
  cases rz
  exact ⟨.bl c, H', I', rfl, qq⟩
/-- o != p, both of C, by an own __eq__ and no own __ne__ -/
theorem own_ne (F : FnOk X.prog X.w X.K X.mg X.base CX k f fd ps sp) (hr : Room (k + 1) X.A) (hs : PySem.W.findIn X.K (.ref C) "__eq__" = some (some (.ref f)))
    (hn : PySem.W.findIn X.K (.ref C) "__ne__" = some (some (.builtin "object.__ne__"))) (hm : PySem.W.mroIn X.K C (.type "object") = some true)
    (hf : PySem.W.isFn X.K (.ref f) = true) (hb : Binds X.K fd ps []) (hx : Passes CX X E) :
    OpR X (compareOp .NotEq) (fun x y H Q => ∃ a b dx dy fs gs, x = .ref a ∧ y = .ref b ∧ H a = some (.ins C dx fs) ∧ H b = some (.ins C dy gs) ∧ sp [x, y] H (fun v H' => ∃ b, v = .bl b ∧ Q (.bl (!b)) H') E) := by
  intro pins s σ H x y v u Q I rx ry h
  obtain ⟨a, b, dx, dy, fs, gs, rfl, rfl, ha, hb', q⟩ := h
  cases rx
  cases ry
  obtain ⟨ox, od, J⟩ := inst_at I ha
  obtain ⟨oy, oe, J'⟩ := inst_at I hb'
  have KX := I.kIn
  have hu1 : X.A.units + 1 < cLine := by have := hr.un; omega
  have entry : ∀ (R : Fin → Shared → Prop), (∀ c s', EP X pins σ Q (.bool (!c)) s' → R (.done (.ret (.bool (!c)))) s') →
      wpAny (model X.prog X.w) X.A.in1 (Builtin.«object.__ne__» ⟨[.ref a, .ref b], []⟩) R X.xe s := by
    intro R hR
    unfold Builtin.«object.__ne__»
    refine wpAny_bind (m := slotArgs "__ne__" 1 _) (wpAny_pure ?_)
    refine wpAny_bind (wpAny_cRoomFor hu1 ?_)
    refine wpAny_bind (PySem.W.ifBound_K KX J hs hf ?_)
    refine wpAny_mono (run_in1 (us := [.ref a, .ref b]) (vs := [.ref a, .ref b]) F hr hb hx I (.cons rfl (.cons rfl .nil)) q) ?_ fun _ _ z => z
    rintro r s' ⟨z, H', I', rz, c, rfl, qq⟩
    cases rz
    exact wpAny_bind (wpAny_truthy_bool (wpAny_pure (hR c s' ⟨.bl (!c), H', I', rfl, qq⟩)))
  have hobj : PySem.W.Looks (model X.prog X.w) s.heap (isInstance (.ref a) (.type "object")) true := J.type.andThen (PySem.W.looks_mroIn KX hm)
  have call2 : ∀ (R : Value → Shared → Prop), (∀ c s', EP X pins σ Q (.bool (!c)) s' → R (.bool (!c)) s') →
      wpAny (model X.prog X.w) X.A (call (.builtin "object.__ne__") [.ref a, .ref b]) R X.xe s := by
    intro R hR
    refine wpAny_call (codeAny_call_builtin PySem.F.cmp_object.ne.plain PySem.F.cmpEntry_ne ?_)
    refine PySem.W.check_slot PySem.F.cmpKind_ne PySem.F.cmpSplit_ne hobj (PySem.F.cmpArgs_ne _ _) ?_
    exact entry _ fun c s' h => hR c s' h
  show wpAny (model X.prog X.w) X.A (richCompare .NotEq (.ref a) (.ref b)) (EP X pins σ Q) X.xe s
  unfold richCompare
  simp only [oneThing_ref]
  refine wpAny_holding (wpAny_bind (wpAny_cRoomFor (Nat.lt_of_succ_lt hu1) ?_))
  rw [cmpInfo_NotEq]
  dsimp only
  refine wpAny_bind (J.type.here (wpAny_bind (J'.type.here ?_)))
  rw [show (Value.ref C != Value.ref C) = false from by simp]
  simp only [Bool.false_eq_true, if_false]
  refine wpAny_bind (wpAny_pure ?_)
  simp only [Bool.false_eq_true, if_false]
  refine wpAny_bind ?_
  simp only [tryCompare]
  refine wpAny_bind ?_
  simp only [callSpecialIfBound?, bindSpecialIfBound?]
  refine wpAny_holding (wpAny_bind (wpAny_bind (wpAny_bind (J.type.here ((PySem.W.looks_findIn KX hn).here ?_)))))
  simp only [PySem.F.cmp_object.ne.bind]
  refine wpAny_bind (wpAny_askSetting (wpAny_ite ?_))
  have fin : ∀ (R : Option Value → Shared → Prop), (∀ c s', EP X pins σ Q (.bool (!c)) s' → R (some (.bool (!c))) s') →
      wpAny (model X.prog X.w) X.A (call (.builtin "object.__ne__") ([.ref a] ++ [.ref b]) >>= fun v => pure (some v)) R X.xe s :=
    fun R hR => wpAny_bind (call2 _ fun c s' h => wpAny_pure (hR c s' h))
  have last : ∀ (R : Option Value → Shared → Prop), (∀ c s', EP X pins σ Q (.bool (!c)) s' → R (some (.bool (!c))) s') →
      wpAny (model X.prog X.w) X.A (do let z ← pure (Value.builtin "object.__ne__", [Value.ref a]); pure (some z)) (fun r s' =>
        wpAny (model X.prog X.w) X.A (match r with
          | some (g, first) => do let z ← call g (first ++ [Value.ref b]); pure (some z)
          | _ => pure none) R X.xe s') X.xe s := fun R hR => wpAny_bind (wpAny_pure (wpAny_pure (fin R hR)))
  split
  · exact last _ fun c s' h => wpAny_pure (wpAny_pure h)
  · exact wpAny_tryCatch (last _ fun c s' h => wpAny_pure (wpAny_pure h))
end
end Sn

/-! ## Rules of our own: C(), C(*xs), cls(*xs), C.m(), o.m(k = v) -/
namespace Sn
open PySem PySem.Spec PyProof.Rows L2
section
variable {X : Cx} {CX : CXT} {k i : Nat} {f C : Addr} {fd : FuncData} {ps : List Str} {sp : Sp} {E : XK} {x m : Str} {e o : Expr} {es : List Expr} {te ta : TE} {t : TA} {p sp_ pos apos : Pos}
/-- C(), __init__ with a star -/
theorem pe_makeR0 (M : Mk X.K C f) (F : FnR X.prog X.w X.K X.mg X.base CX k f sp) (hr : Room (k + 1) X.A) (hg : Gl X x) (hm : X.mg x = some (.ref C)) (hx : Passes CX X E)
    (hdb : (x == ("__debug__" : Str)) = false := by decide) : PE X (.Call (.Name x p) [] [] pos) (StX.tMakeR C sp E tNil) :=
  ⟨fun pins s σ H Q I h => wpAny_Call_Name_kw (ld_glob I hg hm (PySem.W.callWith_K0 I.kIn M.kp (StX.run_makeR (us := []) M F hr hx I .nil h)) hdb)⟩
/-- C(*xs): xs a tuple or a list -/
def tMakeS (K : PySem.W.Frag) (C : Addr) (sp : Sp) (E : XK) (te : TE) : TE := fun σ H Q => te σ H fun y H1 => ∃ a xs, y = V.ref a ∧ (SqT K H1 a xs ∨ SqL K H1 a xs) ∧
  ∀ x dx, H1 x = none → H1 dx = none → dx ≠ x → sp (V.ref x :: xs) (upd (upd H1 dx (.own x)) x (.ins C dx [])) (fun v H2 => v = .non ∧ Q (.ref x) H2) E
theorem pe_makeS (M : Mk X.K C f) (F : FnR X.prog X.w X.K X.mg X.base CX k f sp) (hr : Room (k + 1) X.A) (hg : Gl X x) (hm : X.mg x = some (.ref C)) (hx : Passes CX X E) (he : PE X e te)
    (hdb : (x == ("__debug__" : Str)) = false := by decide) (hst : starEach [.Starred e sp_] X.env = [(true, eval e X.env)] := by rfl) :
    PE X (.Call (.Name x p) [.Starred e sp_] [] pos) (tMakeS X.K C sp E te) := by
  refine ⟨fun pins s σ H Q I h => wpAny_Call_Name_kw (ld_glob I hg hm ?_ hdb)⟩
  refine PySem.W.callWith_S (h₀ := X.base) I.ok.mod.kin M.kp (thn (he.run pins s σ H _ I h) ?_) hst
  rintro v s1 ⟨y, H1, I1, ry, a, xs, rfl, hxs, q⟩
  cases ry
  exact StX.star_any I1 hxs fun us s2 I2 rv => ⟨I2.kIn, StX.run_makeR M F hr hx I2 rv q⟩
/-- cls(*xs), cls a name of the def that holds the class C -/
theorem pe_clsS (M : Mk X.K C f) (F : FnR X.prog X.w X.K X.mg X.base CX k f sp) (hr : Room (k + 1) X.A) (hN : X.N[i]? = some x) (hv : Vis X.env.scope x) (hx : Passes CX X E) (he : PE X e te)
    (hdb : (x == ("__debug__" : Str)) = false := by decide) (hcd : (x == ("__classdict__" : Str)) = false := by decide) (hst : starEach [.Starred e sp_] X.env = [(true, eval e X.env)] := by rfl) :
    PE X (.Call (.Name x p) [.Starred e sp_] [] pos) (fun σ H Q => σ[i]? = some (some (.ref C)) ∧ tMakeS X.K C sp E te σ H Q) := by
  refine ⟨fun pins s σ H Q I h => ?_⟩
  obtain ⟨h1, h2⟩ := h
  refine Call_ (thn ((pe_var (pos := p) hN hv hdb hcd).run pins s σ H (fun v H' => v = .ref C ∧ H' = H) I ⟨_, h1, rfl, rfl⟩) ?_) (by rfl)
  rintro u s1 ⟨y, H1, I1, ry, rfl, rfl⟩
  cases ry
  refine PySem.W.callWith_S (h₀ := X.base) I1.ok.mod.kin M.kp (thn (he.run pins s1 σ _ _ I1 h2) ?_) hst
  rintro v s2 ⟨y, H2, I2, ry, a, xs, rfl, hxs, q⟩
  cases ry
  exact StX.star_any I2 hxs fun us s3 I3 rv => ⟨I3.kIn, StX.run_makeR M F hr hx I3 rv q⟩
/-- C.m(), m a classmethod -/
theorem pe_cmeth0 {mc : Value} {q g : Addr} {pl : Sem Bool} (he : PE X o ta) (r : ClX.CRead X.K C mc) (c : ClX.CMet X.K C mc m q g) (F : FnR X.prog X.w X.K X.mg X.base CX k g sp) (hr : Room k X.A) (hx : Passes CX X E)
    (ht : eval (.Call (.Attribute o m apos) [] [] pos) X.env = (do
      let ov ← eval o X.env
      standAt apos.atName
      let (f, first) ← holding [ov] (getMethod ov m pl)
      callWith pos f first (backTo pos (starEach [] X.env)) (backToKw pos (keywordEach [] X.env))) := by rfl) :
    PE X (.Call (.Attribute o m apos) [] [] pos) (ClX.tCMeth C sp E ta tNil) := by
  refine ⟨fun pins s σ H Q I h => ?_⟩
  refine PySem.W.methodCall_KW (pl := pl) (thn (he.run pins s σ H _ I h) ?_) ht
  rintro u s1 ⟨y, H1, I1, ry, rfl, z⟩
  cases ry
  refine ClX.getmethcm_ok I1 r c fun s2 I2 => ?_
  exact PySem.W.callWith_M0 (first := []) (K := X.K) ⟨ClX.pin_at I2, I2.kIn⟩ c.fi (ClX.run_cm (us := []) F hr hx I2 .nil z)
/-- o.m(k = v), keywords alone -/
def tMethK (C : Addr) (m : Str) (sp : Sp) (gV : List V → List V → List V) (E : XK) (ta : TE) (tk : TA) : TE := fun σ H Q => ta σ H fun x H1 => ∃ a dx fs, x = .ref a ∧ H1 a = some (.ins C dx fs) ∧ fs.lookup m = none ∧
  tk σ H1 fun zs H2 => sp (gV [x] zs) H2 Q E
theorem pe_methK0 {pl : Sem Bool} {kws : List Keyword} {tk : TA} {ks : List Str} {g : List Value → List Value → List Value} {gV : List V → List V → List V} (he : PE X o ta) (c : Cls X.K C) (hm : Meth X.K C m f)
    (F : FnOk X.prog X.w X.K X.mg X.base CX k f fd ps sp) (hr : Room k X.A) (hb : KBinds X.K fd ps ks g gV) (hx : Passes CX X E) (hkw : PK X kws tk)
    (hall : (backToKw pos (keywordEach kws X.env)).all (·.1.isSome) = true := by rfl) (hks : (backToKw pos (keywordEach kws X.env)).filterMap (·.1) = ks := by rfl)
    (hpl : (backToKw pos (keywordEach kws X.env)).any (·.1.isNone) = false := by rfl)
    (ht : eval (.Call (.Attribute o m apos) [] kws pos) X.env = (do
      let ov ← eval o X.env
      standAt apos.atName
      let (f, first) ← holding [ov] (getMethod ov m pl)
      callWith pos f first (backTo pos (starEach [] X.env)) (backToKw pos (keywordEach kws X.env))) := by rfl) :
    PE X (.Call (.Attribute o m apos) [] kws pos) (tMethK C m sp gV E ta tk) := by
  refine ⟨fun pins s σ H Q I h => ?_⟩
  refine PySem.W.methodCall_KW (pl := pl) (thn (he.run pins s σ H _ I h) ?_) ht
  rintro u s1 ⟨y, H1, I1, ry, a, dx, fs, rfl, ea, l, q⟩
  cases ry
  refine getmeth_ok I1 ea c hm l ?_
  refine PySem.W.callWith_KW0 (first := [.ref a]) (h₀ := X.base) I.ok.mod.kin hm.kp hall (thn (hkw.run pos pins s1 σ H1 _ I1 q) ?_) hpl
  rintro ws s2 ⟨zs, H2, I2, rz, q2⟩
  refine ⟨I2.kIn, ?_⟩
  rw [hks]
  exact run_fnk (us := [.ref a]) (vs := [.ref a]) F hr hb hx I2 (.cons rfl .nil) rz q2
/-- e.f, where the knowledge is named (in a comprehension) -/
theorem pe_fldK {K : PySem.W.Frag} {f : Str} (he : PE X e te) (hb : attributeBase e f X.env (eval e X.env) = eval e X.env := by rfl) (hK : X.K = K := by rfl) : PE X (.Attribute e f pos) (tFld K te f) := by
  subst hK
  exact pe_fld he hb
theorem op_in_seqK {K : PySem.W.Frag} (hK : X.K = K := by rfl) : OpR X (compareOp .In) (rIn K false) := by
  subst hK
  exact op_in_seq
theorem op_notIn_seqK {K : PySem.W.Frag} (hK : X.K = K := by rfl) : OpR X (compareOp .NotIn) (rIn K true) := by
  subst hK
  exact op_notIn_seq
theorem op_eqDK {K : PySem.W.Frag} (hu : X.A.units + 64 < cLine) (hK : X.K = K := by rfl) : OpR X (compareOp .Eq) (rEqD K) := by
  subst hK
  exact op_eqD hu
theorem op_neDK {K : PySem.W.Frag} (hu : X.A.units + 64 < cLine) (hK : X.K = K := by rfl) : OpR X (compareOp .NotEq) (rNeD K) := by
  subst hK
  exact op_neD hu
theorem ix_listK {K : PySem.W.Frag} (hK : X.K = K := by rfl) : IxR X (rIxL K) := by
  subst hK
  exact ix_list
theorem ix_tupK {K : PySem.W.Frag} (hK : X.K = K := by rfl) : IxR X (rIxT K) := by
  subst hK
  exact ix_tup
end
end Sn

/-! ## Plain texts as data: shapes, equality; keys of a dict; paths -/
namespace Sn
open PySem PySem.Spec PyProof.Rows L2 TL
def Asc (z : Str) : Prop := ∀ c ∈ tl z, c < 128
theorem asc_app {x y : Str} (a : Asc x) (b : Asc y) : Asc (x ++ y) := fun c h => by
  rw [tl_append] at h
  exact (List.mem_append.mp h).elim (a c) (b c)
theorem asc_cut {z : Str} (a : Asc z) (lo hi : Option Int) : Asc (cutS z lo hi) := fun c h => a c (List.mem_of_mem_drop (List.mem_of_mem_take h))
theorem sgn_asc : ∀ c ∈ tl sgnS, c < 128 := by decide +kernel
theorem isN_sgn {z : Str} (h : isN z = true) : ∀ c ∈ tl z, c ∈ tl sgnS := fun c hc => by
  unfold isN isW at h
  simp only [Bool.and_eq_true, List.all_eq_true, decide_eq_true_eq] at h
  exact h.1.2 c hc
theorem asc_name {z : Str} (h : isN z = true) : Asc z := fun c hc => sgn_asc c (isN_sgn h c hc)
theorem dp_strs {K : PySem.W.Frag} {H : Hp} : ∀ l : List Str, DpAll K H (l.map V.str) (l.map PyData.str)
  | [] => .nil
  | z :: r => .cons (.str z) (dp_strs r)
theorem canLay_strs (l : List Str) : (∀ z ∈ l, Asc z) → PyData.canLayAll0 (l.map PyData.str) = true := by
  induction l with
  | nil => intro _; rfl
  | cons z r ih =>
    intro h
    have hz : PyData.strOk z = true := by
      unfold PyData.strOk
      rw [← Array.all_toList, List.all_eq_true]
      intro c hc
      have := h z (List.mem_cons.mpr (.inl rfl)) c hc
      exact decide_eq_true (by omega)
    simp only [List.map_cons, PyData.canLayAll0, PyData.canLay0, hz, ih fun y hy => h y (List.mem_cons.mpr (.inr hy))]
    rfl
theorem depth_strs (l : List Str) : PyData.depthAll (l.map PyData.str) = 0 := by
  induction l with
  | nil => rfl
  | cons z r ih => simp [PyData.depthAll, PyData.depth, ih]
theorem shaped_strs (l : List Str) (h : ∀ z ∈ l, Asc z) : SeqAt.shaped (.list (l.map PyData.str)) = true := by
  simp [SeqAt.shaped, PyData.canLay0, PyData.depth, canLay_strs l h, depth_strs l]
theorem shaped_tstrs (l : List Str) (h : ∀ z ∈ l, Asc z) : SeqAt.shaped (.tuple (l.map PyData.str)) = true := by
  simp [SeqAt.shaped, PyData.canLay0, PyData.depth, canLay_strs l h, depth_strs l]
theorem eqvAll_strs : ∀ l r : List Str, PyData.eqvAll (l.map PyData.str) (r.map PyData.str) = decide (l = r)
  | [], [] => rfl
  | [], _ :: _ => by simp [PyData.eqvAll]
  | _ :: _, [] => by simp [PyData.eqvAll]
  | a :: l, b :: r => by
    show (PyData.eqv (.str a) (.str b) && PyData.eqvAll (l.map PyData.str) (r.map PyData.str)) = _
    rw [eqvAll_strs l r]
    show ((a == b) && decide (l = r)) = _
    by_cases h : a = b
    · subst h; simp
    · simp [h]
theorem eqv_lists (l r : List Str) : PyData.eqv (.list (l.map PyData.str)) (.list (r.map PyData.str)) = decide (l = r) := by
  show PyData.eqvAll _ _ = _
  exact eqvAll_strs l r
theorem eqv_tups (l r : List Str) : PyData.eqv (.tuple (l.map PyData.str)) (.tuple (r.map PyData.str)) = decide (l = r) := by
  show PyData.eqvAll _ _ = _
  exact eqvAll_strs l r
/-- a path, as the sets want it -/
structure Pth (z : Str) : Prop where
  p : isP z = true
  a : Asc z
  l : z.length ≤ 1000
theorem dot_no : 46 ∉ tl sgnS := by decide +kernel
theorem pth_of {a b : Str} (ha : isN a = true) (hb : isN b = true) : Pth (a ++ "." ++ b) := by
  have na : 46 ∉ tl a := fun h => dot_no (isN_sgn ha _ h)
  have nb : 46 ∉ tl b := fun h => dot_no (isN_sgn hb _ h)
  have e : tl (a ++ "." ++ b) = tl a ++ 46 :: tl b := by
    rw [tl_append, tl_append, show tl ("." : Str) = [46] by decide +kernel, List.append_assoc]; rfl
  have sp := split_one e na
  have sp2 : spl [46] 0 [] (tl b) = [tl b] := spl_last1 (s := 46) (S := []) (p := tl b) (acc := []) nb
  have es : Txt.split (a ++ "." ++ b) dotS = [a, b] := by
    apply map_tl_inj
    rw [sp, sp2]; rfl
  have ha8 := isN_len ha
  have hb8 := isN_len hb
  refine ⟨?_, asc_app (asc_app (asc_name ha) (by unfold Asc; decide +kernel)) (asc_name hb), ?_⟩
  · unfold isP
    have es2 : Txt.split (a ++ "." ++ b) "." = [a, b] := es
    rw [es2]
    simp [ha, hb]
  · rw [len_tl, e, List.length_append, List.length_cons, ← len_tl, ← len_tl]
    omega
/-- texts as keys, all with True -/
def trues (ks : List Str) : List (Key × V) := ks.map fun z => (Sum.inr z, V.bl true)
theorem put_true (ks : List Str) (z : Str) : putK (trues ks) (Sum.inr z) (.bl true) = trues (if z ∈ ks then ks else ks ++ [z]) := by
  unfold putK
  have h : ((trues ks).any fun kv => decide (kv.1 = Sum.inr z)) = decide (z ∈ ks) := by
    unfold trues
    rw [List.any_map, Bool.eq_iff_iff, List.any_eq_true, decide_eq_true_eq]
    constructor
    · rintro ⟨x, hx, e⟩
      have e2 : (Sum.inr x : Key) = Sum.inr z := by simpa using e
      injection e2 with e2
      exact e2 ▸ hx
    · intro hz
      exact ⟨z, hz, by simp⟩
  rw [h]
  by_cases hz : z ∈ ks
  · rw [if_pos (decide_eq_true hz), if_pos hz]
    unfold trues
    rw [List.map_map]
    refine List.map_congr_left fun x _ => ?_
    show (if (Sum.inr x : Key) = Sum.inr z then ((Sum.inr x : Key), V.bl true) else (Sum.inr x, V.bl true)) = _
    split <;> rfl
  · rw [if_neg (by simpa using hz), if_neg hz]
    unfold trues
    rw [List.map_append]; rfl
theorem map_str_inj {l r : List Str} (h : l.map V.str = r.map V.str) : l = r := by
  induction l generalizing r with
  | nil => cases r with
    | nil => rfl
    | cons _ _ => cases h
  | cons a l ih => cases r with
    | nil => cases h
    | cons b r =>
      injection h with h1 h2
      injection h1 with h1
      rw [h1, ih h2]
theorem get_strs {l : List Str} {i : Nat} {x : V} (h : (l.map V.str)[i]? = some x) : ∃ z, l[i]? = some z ∧ x = V.str z := by
  rw [List.getElem?_map] at h
  cases e : l[i]? with
  | none => rw [e] at h; cases h
  | some y => rw [e] at h; exact ⟨y, rfl, (Option.some.inj h).symm⟩
end Sn

/-! ## Names that were not drawn yet, in plain Lean -/
namespace Sn
open PySem PySem.Spec PyProof.Rows L2 TL
/-- who has no repetition and lies within another row is not longer -/
theorem nodup_len {α : Type} [DecidableEq α] : ∀ (l r : List α), l.Nodup → (∀ x ∈ l, x ∈ r) → l.length ≤ r.length
  | [], _, _, _ => Nat.zero_le _
  | a :: l, r, n, h => by
    have n2 := List.nodup_cons.mp n
    have ha : a ∈ r := h a (List.mem_cons.mpr (.inl rfl))
    have ih := nodup_len l (r.erase a) n2.2 fun x hx => by
      have ne : x ≠ a := fun e => n2.1 (e ▸ hx)
      exact (List.mem_erase_of_ne ne).mpr (h x (List.mem_cons.mpr (.inr hx)))
    have e := List.length_erase_of_mem ha
    have pos : 0 < r.length := List.length_pos_of_mem ha
    rw [List.length_cons]
    omega
def numS (j : Nat) : Str := toString ((10 : Int) + (j : Int))
theorem num_two : ∀ j ∈ List.range 30, (tl (numS j)).length = 2 ∧ (∀ c ∈ tl (numS j), c ∈ tl sgnS) ∧ (∀ r ∈ resv, ∀ c ∈ tl (numS j), c ∉ tl r) := by decide +kernel
theorem num_nd : ((List.range 30).map fun j => tl (numS j)).Nodup := by decide +kernel
theorem cut6 (z : Str) : tl (cutS z none (some 6)) = (tl z).take 6 := by
  unfold cutS
  rw [show HT.sIx z.length z.length (some 6) = min 6 z.length from HT.sIx_nat _ _ 6, HT.sIx_none]
  show ((tl z).drop 0).take (min 6 z.length - 0) = _
  rw [List.drop_zero, Nat.sub_zero, len_tl, List.take_eq_take_iff]
  omega
/-- what may be put in the place of a drawn name -/
def cand (z : Str) (j : Nat) : Str := cutS z none (some 6) ++ numS j
def cands (z : Str) : List Str := z :: (List.range 30).map (cand z)
theorem isN_head {z : Str} (h : isN z = true) : ∃ c r, tl z = c :: r ∧ c ∈ tl letS ∧ ∀ x ∈ r, x ∈ tl sgnS := by
  have hs := isN_sgn h
  unfold isN at h
  simp only [Bool.and_eq_true] at h
  have hf := h.2.1
  unfold fstL at hf
  match e : tl z with
  | [] => rw [e] at hf; cases hf
  | c :: r =>
    rw [e] at hf
    exact ⟨c, r, rfl, by simpa using hf, fun x hx => hs x (by rw [e]; exact List.mem_cons.mpr (.inr hx))⟩
theorem cand_ok {z : Str} (h : isN z = true) {j : Nat} (hj : j < 30) : isN (cand z j) = true := by
  obtain ⟨c, r, e, hc, hr⟩ := isN_head h
  obtain ⟨h2, hs, hn⟩ := num_two j (List.mem_range.mpr hj)
  have e2 : tl (cand z j) = c :: (r.take 5 ++ tl (numS j)) := by
    unfold cand
    rw [tl_append, cut6, e]; rfl
  refine isN_of e2 hc (fun x hx => ?_) (by rw [List.length_append, List.length_take, h2]; omega) fun hm => ?_
  · rcases List.mem_append.mp hx with q | q
    · exact hr x (List.mem_of_mem_take q)
    · exact hs x q
  · match e3 : tl (numS j) with
    | [] => rw [e3] at h2; cases h2
    | d :: r3 =>
      exact hn _ hm d (by rw [e3]; simp) (by rw [e2, e3]; simp)
theorem cands_ok {z : Str} (h : isN z = true) : ∀ y ∈ cands z, isN y = true := by
  intro y hy
  rcases List.mem_cons.mp hy with rfl | hy
  · exact h
  · obtain ⟨j, hj, rfl⟩ := List.mem_map.mp hy
    exact cand_ok h (List.mem_range.mp hj)
theorem cand_nd (z : Str) : ((List.range 30).map (cand z)).Nodup := by
  have h : ((List.range 30).map fun j => tl (cand z j)).Nodup := by
    have e : ((List.range 30).map fun j => tl (cand z j)) = ((List.range 30).map fun j => tl (numS j)).map fun l => (tl z).take 6 ++ l := by
      rw [List.map_map]
      refine List.map_congr_left fun j _ => ?_
      show tl (cand z j) = (tl z).take 6 ++ tl (numS j)
      unfold cand
      rw [tl_append, cut6]
    rw [e]
    exact List.Pairwise.map _ (fun a b ne q => ne (List.append_cancel_left q)) num_nd
  have e2 : ((List.range 30).map fun j => tl (cand z j)) = ((List.range 30).map (cand z)).map tl := by rw [List.map_map]; rfl
  rw [e2] at h
  exact List.Pairwise.of_map tl (fun a b ne q => ne (q ▸ rfl)) h
/-- one of them is new -/
theorem cand_new {z : Str} {l : List Str} (hl : l.length < 30) : (cands z).filter (fun y => !decide (y ∈ l)) ≠ [] := by
  intro e
  have h : ∀ y ∈ (List.range 30).map (cand z), y ∈ l := by
    intro y hy
    have h2 := List.filter_eq_nil_iff.mp e y (List.mem_cons.mpr (.inr hy))
    simpa using h2
  have q := nodup_len _ l (cand_nd z) h
  rw [List.length_map, List.length_range] at q
  omega
end Sn

namespace Sn
open PySem PySem.Spec PyProof.Rows L2
def top (i : Nat) : Stmt := PySem.Challenge.pw_sparenames_k04_whole_sets_joined.main.body.getD i (.Pass ⟨0, 0, 0, 0⟩)
abbrev s_BadPath_init : Stmt := inClass (top 2) 0
abbrev s_is_word : Stmt := top 8
abbrev s_is_name : Stmt := top 9
abbrev s_is_path : Stmt := top 10
abbrev s_Names_init : Stmt := inClass (top 11) 0
abbrev s_Names_iter : Stmt := inClass (top 11) 1
abbrev s_Names_len : Stmt := inClass (top 11) 2
abbrev s_Names_bool : Stmt := inClass (top 11) 3
abbrev s_Names_contains : Stmt := inClass (top 11) 4
abbrev s_Names_eq : Stmt := inClass (top 11) 5
abbrev s_Names_or : Stmt := inClass (top 11) 6
abbrev s_Names_and : Stmt := inClass (top 11) 7
abbrev s_Names_sub : Stmt := inClass (top 11) 8
abbrev s_Names_within : Stmt := inClass (top 11) 9
abbrev s_Names_gathered : Stmt := inClass (top 11) 10
abbrev s_law_begun : Stmt := top 13
abbrev s_law_mixed : Stmt := top 14
abbrev s_law_take : Stmt := top 15
abbrev s_law_pick : Stmt := top 16
abbrev s_law_reserved : Stmt := top 17
abbrev s_law_any_word : Stmt := top 18
abbrev s_law_any_name : Stmt := top 19
abbrev s_law_names : Stmt := top 20
abbrev s_law_set : Stmt := top 21
abbrev s_law_is : Stmt := top 22
abbrev s_law_pair_right : Stmt := top 23
abbrev s_law : Stmt := top 24
abbrev n_is_word : List Str := ["value", "sign"]
theorem sc_is_word : FnScope n_is_word ["value"] (defScope s_is_word) := ⟨rfl, rfl, rfl, by decide +kernel, rfl, by decide +kernel, by decide +kernel⟩
abbrev n_is_name : List Str := ["value"]
theorem sc_is_name : FnScope n_is_name ["value"] (defScope s_is_name) := ⟨rfl, rfl, rfl, by decide +kernel, rfl, by decide +kernel, by decide +kernel⟩
abbrev n_is_path : List Str := ["value", "parts", "part"]
theorem sc_is_path : FnScope n_is_path ["value"] (defScope s_is_path) := ⟨rfl, rfl, rfl, by decide +kernel, rfl, by decide +kernel, by decide +kernel⟩
abbrev n_Names_init : List Str := ["self", "paths", "at", "path"]
theorem sc_Names_init : FnScope n_Names_init ["self", "paths"] (defScope s_Names_init) := ⟨rfl, rfl, rfl, by decide +kernel, rfl, by decide +kernel, by decide +kernel⟩
abbrev n_Names_iter : List Str := ["self"]
theorem sc_Names_iter : FnScope n_Names_iter ["self"] (defScope s_Names_iter) := ⟨rfl, rfl, rfl, by decide +kernel, rfl, by decide +kernel, by decide +kernel⟩
abbrev n_Names_len : List Str := ["self"]
theorem sc_Names_len : FnScope n_Names_len ["self"] (defScope s_Names_len) := ⟨rfl, rfl, rfl, by decide +kernel, rfl, by decide +kernel, by decide +kernel⟩
abbrev n_Names_bool : List Str := ["self"]
theorem sc_Names_bool : FnScope n_Names_bool ["self"] (defScope s_Names_bool) := ⟨rfl, rfl, rfl, by decide +kernel, rfl, by decide +kernel, by decide +kernel⟩
abbrev n_Names_contains : List Str := ["self", "value"]
theorem sc_Names_contains : FnScope n_Names_contains ["self", "value"] (defScope s_Names_contains) := ⟨rfl, rfl, rfl, by decide +kernel, rfl, by decide +kernel, by decide +kernel⟩
abbrev n_Names_eq : List Str := ["self", "other"]
theorem sc_Names_eq : FnScope n_Names_eq ["self", "other"] (defScope s_Names_eq) := ⟨rfl, rfl, rfl, by decide +kernel, rfl, by decide +kernel, by decide +kernel⟩
abbrev n_Names_or : List Str := ["self", "other", "paths"]
theorem sc_Names_or : FnScope n_Names_or ["self", "other"] (defScope s_Names_or) := ⟨rfl, rfl, rfl, by decide +kernel, rfl, by decide +kernel, by decide +kernel⟩
abbrev n_Names_and : List Str := ["self", "other", "paths", "path"]
theorem sc_Names_and : FnScope n_Names_and ["self", "other"] (defScope s_Names_and) := ⟨rfl, rfl, rfl, by decide +kernel, rfl, by decide +kernel, by decide +kernel⟩
abbrev n_Names_sub : List Str := ["self", "other", "paths", "path"]
theorem sc_Names_sub : FnScope n_Names_sub ["self", "other"] (defScope s_Names_sub) := ⟨rfl, rfl, rfl, by decide +kernel, rfl, by decide +kernel, by decide +kernel⟩
abbrev n_Names_within : List Str := ["self", "other", "path"]
theorem sc_Names_within : FnScope n_Names_within ["self", "other"] (defScope s_Names_within) := ⟨rfl, rfl, rfl, by decide +kernel, rfl, by decide +kernel, by decide +kernel⟩
abbrev n_Names_gathered : List Str := ["cls", "several", "paths", "names"]
theorem sc_Names_gathered : FnScope n_Names_gathered ["cls", "several"] (defScope s_Names_gathered) := ⟨rfl, rfl, rfl, by decide +kernel, rfl, by decide +kernel, by decide +kernel⟩
abbrev n_law_begun : List Str := ["_law_script", "_law_great", "_law_cell"]
theorem sc_law_begun : FnScope n_law_begun ["_law_script"] (defScope s_law_begun) := ⟨rfl, rfl, rfl, by decide +kernel, rfl, by decide +kernel, by decide +kernel⟩
abbrev n_law_mixed : List Str := ["_law_state", "_law_found", "_law_prime", "_law_blend", "_law_cell"]
theorem sc_law_mixed : FnScope n_law_mixed ["_law_state"] (defScope s_law_mixed) := ⟨rfl, rfl, rfl, by decide +kernel, rfl, by decide +kernel, by decide +kernel⟩
abbrev n_law_take : List Str := ["_law_state", "_law_size", "_law_found"]
theorem sc_law_take : FnScope n_law_take ["_law_state", "_law_size"] (defScope s_law_take) := ⟨rfl, rfl, rfl, by decide +kernel, rfl, by decide +kernel, by decide +kernel⟩
abbrev n_law_pick : List Str := ["_law_state", "_law_some"]
theorem sc_law_pick : FnScope n_law_pick ["_law_state", "_law_some"] (defScope s_law_pick) := ⟨rfl, rfl, rfl, by decide +kernel, rfl, by decide +kernel, by decide +kernel⟩
abbrev n_law_reserved : List Str := ["_law_words"]
theorem sc_law_reserved : FnScope n_law_reserved [] (defScope s_law_reserved) := ⟨rfl, rfl, rfl, by decide +kernel, rfl, by decide +kernel, by decide +kernel⟩
abbrev n_law_any_word : List Str := ["_law_state", "_law_least", "_law_most", "_law_signs", "_law_turn"]
theorem sc_law_any_word : FnScope n_law_any_word ["_law_state", "_law_least", "_law_most"] (defScope s_law_any_word) := ⟨rfl, rfl, rfl, by decide +kernel, rfl, by decide +kernel, by decide +kernel⟩
abbrev n_law_any_name : List Str := ["_law_state", "_law_near", "_law_word"]
theorem sc_law_any_name : FnScope n_law_any_name ["_law_state"] (defScope s_law_any_name) := ⟨rfl, rfl, rfl, by decide +kernel, rfl, by decide +kernel, by decide +kernel⟩
abbrev n_law_names : List Str := ["_law_state", "_law_many", "_law_found", "_law_turn", "_law_word", "_law_some", "_law_k", "_law_here"]
theorem sc_law_names : FnScope n_law_names ["_law_state", "_law_many"] (defScope s_law_names) := ⟨rfl, rfl, rfl, by decide +kernel, rfl, by decide +kernel, by decide +kernel⟩
abbrev n_law_set : List Str := ["_law_some"]
theorem sc_law_set : FnScope n_law_set ["_law_some"] (defScope s_law_set) := ⟨rfl, rfl, rfl, by decide +kernel, rfl, by decide +kernel, by decide +kernel⟩
abbrev n_law_is : List Str := ["_law_made", "_law_due", "_law_every", "_law_path"]
theorem sc_law_is : FnScope n_law_is ["_law_made", "_law_due", "_law_every"] (defScope s_law_is) := ⟨rfl, rfl, rfl, by decide +kernel, rfl, by decide +kernel, by decide +kernel⟩
abbrev n_law_pair_right : List Str := ["_law_one", "_law_second", "_law_few", "_law_many", "_law_every", "_law_both", "_law_common", "_law_rest", "_law_told", "_law_path"]
theorem sc_law_pair_right : FnScope n_law_pair_right ["_law_one", "_law_second", "_law_few", "_law_many", "_law_every"] (defScope s_law_pair_right) := ⟨rfl, rfl, rfl, by decide +kernel, rfl, by decide +kernel, by decide +kernel⟩
abbrev n_law : List Str := ["_law_script", "_law_state", "_law_turn", "_law_words", "_law_k", "_law_every", "_law_members", "_law_j", "_law_some", "_law_sets", "_law_whole", "_law_path"]
theorem sc_law : FnScope n_law ["_law_script"] (defScope s_law) := ⟨rfl, rfl, rfl, by decide +kernel, rfl, by decide +kernel, by decide +kernel⟩
/-- what the top has left: the defs, the constants, the names that are still built in -/
structure Txt (K : PySem.W.Frag) (mg : Str → Option Value) where
  f_is_word : Addr
  fd_is_word : FuncData
  F_is_word : Fun K "is_word" "is_word" s_is_word f_is_word fd_is_word
  g_is_word : mg "is_word" = some (.ref f_is_word)
  b_is_word : Binds K fd_is_word ["value"] []
  f_is_name : Addr
  fd_is_name : FuncData
  F_is_name : Fun K "is_name" "is_name" s_is_name f_is_name fd_is_name
  g_is_name : mg "is_name" = some (.ref f_is_name)
  b_is_name : Binds K fd_is_name ["value"] []
  f_is_path : Addr
  fd_is_path : FuncData
  F_is_path : Fun K "is_path" "is_path" s_is_path f_is_path fd_is_path
  g_is_path : mg "is_path" = some (.ref f_is_path)
  b_is_path : Binds K fd_is_path ["value"] []
  f_law_begun : Addr
  fd_law_begun : FuncData
  F_law_begun : Fun K "_law_begun" "_law_begun" s_law_begun f_law_begun fd_law_begun
  g_law_begun : mg "_law_begun" = some (.ref f_law_begun)
  b_law_begun : Binds K fd_law_begun ["_law_script"] []
  f_law_mixed : Addr
  fd_law_mixed : FuncData
  F_law_mixed : Fun K "_law_mixed" "_law_mixed" s_law_mixed f_law_mixed fd_law_mixed
  g_law_mixed : mg "_law_mixed" = some (.ref f_law_mixed)
  b_law_mixed : Binds K fd_law_mixed ["_law_state"] []
  f_law_take : Addr
  fd_law_take : FuncData
  F_law_take : Fun K "_law_take" "_law_take" s_law_take f_law_take fd_law_take
  g_law_take : mg "_law_take" = some (.ref f_law_take)
  b_law_take : Binds K fd_law_take ["_law_state", "_law_size"] []
  f_law_pick : Addr
  fd_law_pick : FuncData
  F_law_pick : Fun K "_law_pick" "_law_pick" s_law_pick f_law_pick fd_law_pick
  g_law_pick : mg "_law_pick" = some (.ref f_law_pick)
  b_law_pick : Binds K fd_law_pick ["_law_state", "_law_some"] []
  f_law_reserved : Addr
  fd_law_reserved : FuncData
  F_law_reserved : Fun K "_law_reserved" "_law_reserved" s_law_reserved f_law_reserved fd_law_reserved
  g_law_reserved : mg "_law_reserved" = some (.ref f_law_reserved)
  b_law_reserved : Binds K fd_law_reserved [] []
  f_law_any_word : Addr
  fd_law_any_word : FuncData
  F_law_any_word : Fun K "_law_any_word" "_law_any_word" s_law_any_word f_law_any_word fd_law_any_word
  g_law_any_word : mg "_law_any_word" = some (.ref f_law_any_word)
  b_law_any_word : Binds K fd_law_any_word ["_law_state", "_law_least", "_law_most"] []
  f_law_any_name : Addr
  fd_law_any_name : FuncData
  F_law_any_name : Fun K "_law_any_name" "_law_any_name" s_law_any_name f_law_any_name fd_law_any_name
  g_law_any_name : mg "_law_any_name" = some (.ref f_law_any_name)
  b_law_any_name : Binds K fd_law_any_name ["_law_state"] []
  f_law_names : Addr
  fd_law_names : FuncData
  F_law_names : Fun K "_law_names" "_law_names" s_law_names f_law_names fd_law_names
  g_law_names : mg "_law_names" = some (.ref f_law_names)
  b_law_names : Binds K fd_law_names ["_law_state", "_law_many"] []
  f_law_set : Addr
  fd_law_set : FuncData
  F_law_set : Fun K "_law_set" "_law_set" s_law_set f_law_set fd_law_set
  g_law_set : mg "_law_set" = some (.ref f_law_set)
  b_law_set : Binds K fd_law_set ["_law_some"] []
  f_law_is : Addr
  fd_law_is : FuncData
  F_law_is : Fun K "_law_is" "_law_is" s_law_is f_law_is fd_law_is
  g_law_is : mg "_law_is" = some (.ref f_law_is)
  b_law_is : Binds K fd_law_is ["_law_made", "_law_due", "_law_every"] []
  f_law_pair_right : Addr
  fd_law_pair_right : FuncData
  F_law_pair_right : Fun K "_law_pair_right" "_law_pair_right" s_law_pair_right f_law_pair_right fd_law_pair_right
  g_law_pair_right : mg "_law_pair_right" = some (.ref f_law_pair_right)
  b_law_pair_right : Binds K fd_law_pair_right ["_law_one", "_law_second", "_law_few", "_law_many", "_law_every"] []
  f_law : Addr
  fd_law : FuncData
  F_law : Fun K "law" "law" s_law f_law fd_law
  g_law : mg "law" = some (.ref f_law)
  b_law : Binds K fd_law ["_law_script"] []
  c_LETTERS : ∃ t, mg "LETTERS" = some (.str "abcdefghijklmnopqrstuvwxyz" t)
  c_SIGNS : ∃ t, mg "SIGNS" = some (.str "abcdefghijklmnopqrstuvwxyz0123456789_" t)
  c_MOST_SIGNS : ∃ t, mg "MOST_SIGNS" = some (.int 8 t)
  a_RESERVED : Addr
  c_RESERVED : mg "RESERVED" = some (.ref a_RESERVED)
  q_RESERVED : ∀ H, SqT K H a_RESERVED [V.str "as", V.str "ask", V.str "call", V.str "def", V.str "each", V.str "else", V.str "entry", V.str "except", V.str "fail", V.str "if", V.str "in", V.str "let", V.str "offer", V.str "return", V.str "set", V.str "table", V.str "there", V.str "try", V.str "use"]
  z_super : mg "super" = none
  z_isinstance : mg "isinstance" = none
  z_str : mg "str" = none
  z_all : mg "all" = none
  z_len : mg "len" = none
  z_tuple : mg "tuple" = none
  z_enumerate : mg "enumerate" = none
  z_sorted : mg "sorted" = none
  z_list : mg "list" = none
  z_iter : mg "iter" = none
  z_NotImplemented : mg "NotImplemented" = none
  z_classmethod : mg "classmethod" = none
  z_int : mg "int" = none
  z_range : mg "range" = none
  z_repr : mg "repr" = none
  z_min : mg "min" = none
  C_Names : Addr
  gC_Names : mg "Names" = some (.ref C_Names)
  cl_Names : Cls K C_Names
  sf_Names : PySem.W.selfFirst K C_Names = true
  ih_Names : PySem.W.findIn K (.ref C_Names) "__class__" = some (some (.builtin "object.__class__"))
  in_Names : PySem.W.specialIn K (.builtin "object.__class__") "__get__" = some (some (.builtin "getset_descriptor.__get__"))
  it_Names : PySem.W.takesIn K (.builtin "object.__class__") = some true
  im_Names : PySem.W.mroIn K C_Names (.type "object") = some true
  ne_Names : PySem.W.findIn K (.ref C_Names) "__ne__" = some (some (.builtin "object.__ne__"))
  at_Names_paths : NoAttr K C_Names "paths"
  f_Names_init : Addr
  fd_Names_init : FuncData
  F_Names_init : Fun K "__init__" "Names.__init__" s_Names_init f_Names_init fd_Names_init
  m_Names_init : Meth K C_Names "__init__" f_Names_init
  mk_Names : Mk K C_Names f_Names_init
  f_Names_len : Addr
  fd_Names_len : FuncData
  F_Names_len : Fun K "__len__" "Names.__len__" s_Names_len f_Names_len fd_Names_len
  m_Names_len : Meth K C_Names "__len__" f_Names_len
  b_Names_len : Binds K fd_Names_len ["self"] []
  f_Names_contains : Addr
  fd_Names_contains : FuncData
  F_Names_contains : Fun K "__contains__" "Names.__contains__" s_Names_contains f_Names_contains fd_Names_contains
  m_Names_contains : Meth K C_Names "__contains__" f_Names_contains
  b_Names_contains : Binds K fd_Names_contains ["self", "value"] []
  f_Names_eq : Addr
  fd_Names_eq : FuncData
  F_Names_eq : Fun K "__eq__" "Names.__eq__" s_Names_eq f_Names_eq fd_Names_eq
  m_Names_eq : Meth K C_Names "__eq__" f_Names_eq
  b_Names_eq : Binds K fd_Names_eq ["self", "other"] []
  f_Names_or : Addr
  fd_Names_or : FuncData
  F_Names_or : Fun K "__or__" "Names.__or__" s_Names_or f_Names_or fd_Names_or
  m_Names_or : Meth K C_Names "__or__" f_Names_or
  b_Names_or : Binds K fd_Names_or ["self", "other"] []
  f_Names_and : Addr
  fd_Names_and : FuncData
  F_Names_and : Fun K "__and__" "Names.__and__" s_Names_and f_Names_and fd_Names_and
  m_Names_and : Meth K C_Names "__and__" f_Names_and
  b_Names_and : Binds K fd_Names_and ["self", "other"] []
  f_Names_sub : Addr
  fd_Names_sub : FuncData
  F_Names_sub : Fun K "__sub__" "Names.__sub__" s_Names_sub f_Names_sub fd_Names_sub
  m_Names_sub : Meth K C_Names "__sub__" f_Names_sub
  b_Names_sub : Binds K fd_Names_sub ["self", "other"] []
  f_Names_within : Addr
  fd_Names_within : FuncData
  F_Names_within : Fun K "within" "Names.within" s_Names_within f_Names_within fd_Names_within
  m_Names_within : Meth K C_Names "within" f_Names_within
  b_Names_within : Binds K fd_Names_within ["self", "other"] []
  f_Names_gathered : Addr
  fd_Names_gathered : FuncData
  F_Names_gathered : Fun K "gathered" "Names.gathered" s_Names_gathered f_Names_gathered fd_Names_gathered
  mc_Names_gathered : Value
  q_Names_gathered : Addr
  cr_Names_gathered : ClX.CRead K C_Names mc_Names_gathered
  cm_Names_gathered : ClX.CMet K C_Names mc_Names_gathered "gathered" q_Names_gathered f_Names_gathered
end Sn

/-! ## The drawing state of the laws: _law_begun, _law_mixed, _law_take, _law_pick. What is drawn is not told, only its bounds -/
namespace Sn
open PySem PySem.Spec PyProof.Rows L2

/-- the state's dict -/
def drK (g c : Addr) (l t : Int) : List (Key × V) :=
  [(Sum.inr "great", .ref g), (Sum.inr "cells", .ref c), (Sum.inr "left", .int l), (Sum.inr "turn", .int t)]
/-- the drawing state stands at d, its two lists at g and c; at most m numbers were mixed so far -/
structure Dr (H : Hp) (d g c : Addr) (m : Nat) : Prop where
  di : ∃ l t : Int, 0 ≤ t ∧ t ≤ m ∧ H d = some (.dK (drK g c l t))
  gr : ∃ ns : List Int, H g = some (.lst (ns.map V.int))
  ce : ∃ ns : List Int, H c = some (.lst (ns.map V.int))
  gc : g ≠ c
theorem Dr.mono {H : Hp} {d g c : Addr} {m n : Nat} (D : Dr H d g c m) (h : m ≤ n) : Dr H d g c n := by
  obtain ⟨l, t, h0, h1, h2⟩ := D.di
  exact ⟨⟨l, t, h0, by omega, h2⟩, D.gr, D.ce, D.gc⟩
theorem Dr.dg {H : Hp} {d g c : Addr} {m : Nat} (D : Dr H d g c m) : d ≠ g := by
  obtain ⟨l, t, _, _, h2⟩ := D.di
  obtain ⟨ns, h3⟩ := D.gr
  exact ne_of h2 h3 (by intro z; cases z)
theorem Dr.dc {H : Hp} {d g c : Addr} {m : Nat} (D : Dr H d g c m) : d ≠ c := by
  obtain ⟨l, t, _, _, h2⟩ := D.di
  obtain ⟨ns, h3⟩ := D.ce
  exact ne_of h2 h3 (by intro z; cases z)
/-- all that was tracked stands, but the state's dict and its first list -/
def Mv (d g : Addr) (H H' : Hp) : Prop := ∀ b o, b ≠ d → b ≠ g → H b = some o → H' b = some o
theorem Mv.refl (d g : Addr) (H : Hp) : Mv d g H H := fun _ _ _ _ e => e
theorem Mv.trans {d g : Addr} {H H1 H2 : Hp} (a : Mv d g H H1) (b : Mv d g H1 H2) : Mv d g H H2 :=
  fun x o h1 h2 e => b x o h1 h2 (a x o h1 h2 e)
theorem Mv.same {d g : Addr} {H H1 : Hp} (a : Same H H1) : Mv d g H H1 := fun x o _ _ e => a x o e
theorem Mv.upd {d g : Addr} {H : Hp} {o : HO} : Mv d g H (upd H d o) := fun b x h1 _ e => by rw [upd_ne h1]; exact e
theorem same_new {H : Hp} {p : Addr} {o : HO} (h : H p = none) : Same H (upd H p o) := fun b x e => by
  rw [upd_ne (ne_of_none e h)]
  exact e
/-- the state stays where all that is tracked stays -/
theorem Dr.same {H H' : Hp} {d g c : Addr} {m : Nat} (D : Dr H d g c m) (s : Same H H') : Dr H' d g c m := by
  obtain ⟨⟨l, t, h0, h1, h2⟩, ⟨a, h3⟩, ⟨b, h4⟩, h5⟩ := D
  exact ⟨⟨l, t, h0, h1, s _ _ h2⟩, ⟨a, s _ _ h3⟩, ⟨b, s _ _ h4⟩, h5⟩
theorem get_great (g c : Addr) (l t : Int) : valV (drK g c l t) (Sum.inr "great" : Key) = some (.ref g) := by kernel_rfl
theorem get_cells (g c : Addr) (l t : Int) : valV (drK g c l t) (Sum.inr "cells" : Key) = some (.ref c) := by kernel_rfl
theorem get_left (g c : Addr) (l t : Int) : valV (drK g c l t) (Sum.inr "left" : Key) = some (.int l) := by kernel_rfl
theorem get_turn (g c : Addr) (l t : Int) : valV (drK g c l t) (Sum.inr "turn" : Key) = some (.int t) := by kernel_rfl
theorem put_left (g c : Addr) (l t x : Int) : putK (drK g c l t) (Sum.inr "left" : Key) (.int x) = drK g c x t := by kernel_rfl
theorem put_turn (g c : Addr) (l t x : Int) : putK (drK g c l t) (Sum.inr "turn" : Key) (.int x) = drK g c l x := by kernel_rfl
theorem dget_of {H : Hp} {d : Addr} {kvs : List (Key × V)} {x : Str} {v : V} (h : H d = some (.dK kvs)) (e : valV kvs (Sum.inr x : Key) = some v) :
    DGet H d (.str x) (some v) := .inl ⟨kvs, Sum.inr x, .inl h, rfl, e.symm⟩
theorem dput_of {H : Hp} {d : Addr} {kvs kvs' : List (Key × V)} {x : Str} {v : V} (h : H d = some (.dK kvs)) (hl : kvs.length ≤ 1000) (e : putK kvs (Sum.inr x : Key) v = kvs') :
    DPut H d (.str x) v (upd H d (.dK kvs')) := .inl ⟨kvs, Sum.inr x, h, rfl, small1000 hl, by rw [e]⟩

theorem dp_ints {K : PySem.W.Frag} {H : Hp} : ∀ ns : List Int, DpAll K H (ns.map V.int) (ns.map PyData.int)
  | [] => .nil
  | n :: r => .cons (.int n) (dp_ints r)
theorem ix0 (x : Int) (r : List Int) : seqIndex? 0 ((x :: r).map V.int).length = some 0 := by
  rw [List.map_cons, List.length_cons]
  simp [seqIndex?]
theorem small4 (g c : Addr) (l t : Int) : (drK g c l t).length ≤ 1000 := by show 4 ≤ 1000; decide
def primes : List Int := [2147483629, 2147483587, 2147483579, 2147483563, 2147483549, 2147483543]
theorem primes_lo : ∀ q ∈ primes, 2147483543 ≤ q := by decide
theorem primes_hi : ∀ q ∈ primes, q ≤ 2147483629 := by decide
section
variable {P : Program} {w : World} {K : PySem.W.Frag} {mg : Str → Option Value} {base : Heap}
/-- _law_mixed: some number; one more was mixed -/
def spMixed : Sp := fun vs H Q _ => ∃ (d g c : Addr) (m : Nat), vs = [.ref d] ∧ Dr H d g c m ∧ m ≤ 1000000000 ∧
  ∀ (r : Int) (H' : Hp), Dr H' d g c (m + 1) → H' g = H g → Mv d g H H' → Q (.int r) H'
theorem ok_mixed (T : Txt K mg) : FnOk P w K mg base CX0 1 T.f_law_mixed T.fd_law_mixed ["_law_state"] spMixed := by
  refine T.F_law_mixed.ok sc_law_mixed (fun vs H Q E h => ?_) (fun cdv A outer s H vs Q E hr h => ?_)
  · obtain ⟨d, g, c, m, rfl, _⟩ := h
    rfl
  · obtain ⟨d, g, c, m, rfl, D, hm, k⟩ := h
    have hu := hu_of hr
    refine ⟨_, pss_cons (ps_dput hu (pv 0) pe_str (pe_op op_add (pe_dget hu (pv 0) pe_str (fun _ _ => rfl)) pe_int) rfl)
      (pss_cons (ps_set (i := 1) sc_law_mixed.nd rfl (Or.inl rfl) pe_int)
      (pss_cons (ps_for PassesOwn.never rfl (pi_list (pe_lst (pa_cons pe_int (pa_cons pe_int (pa_cons pe_int (pa_cons pe_int (pa_cons pe_int (pa_cons pe_int pa_nil)))))))) (pg_name (i := 2) sc_law_mixed.nd rfl (Or.inl rfl))
        (pss_cons (ps_set (i := 3) sc_law_mixed.nd rfl (Or.inl rfl) (pe_op op_add (pe_op op_mul pe_int (pe_dget hu (pv 0) pe_str (fun _ _ => rfl))) (pe_op op_fdivN (pv 2) pe_int)))
        (pss_cons (ps_for PassesOwn.never rfl (pi_list (pe_dget hu (pv 0) pe_str (fun _ _ => rfl))) (pg_name (i := 4) sc_law_mixed.nd rfl (Or.inl rfl))
          (pss_one (ps_set (i := 3) sc_law_mixed.nd rfl (Or.inl rfl) (pe_op op_modN (pe_callTy call_int1 (by rfl) T.z_int (by decide +kernel) (pa_cons (pe_op op_add (pe_op op_mul (pv 3) pe_int) (pv 4)) pa_nil)) (pv 2)))))
        (pss_one (ps_set (i := 1) sc_law_mixed.nd rfl (Or.inl rfl) (pe_op op_add (pe_op op_mul (pv 1) pe_int) (pe_op op_modN (pe_callTy call_int1 (by rfl) T.z_int (by decide +kernel) (pa_cons (pe_op op_pow (pv 3) pe_int) pa_nil)) (pv 2))))))))
      (pss_one (ps_ret (pv 1))))), ?_⟩
    obtain ⟨⟨l, t, h0, h1, hd⟩, ⟨gs, hg⟩, ⟨cs, hc⟩, hgc⟩ := id D
    refine ⟨_, rfl, d, _, rfl, dget_of hd (get_turn g c l t), _, _, rfl, rfl, _, rfl, d, _, rfl, dput_of hd (small4 g c l t) (put_turn g c l t _), ?_⟩
    refine ⟨(by show 6 ≤ sizeLine; decide), fun p hp => ?_⟩
    have npd : p ≠ d := fun e => by rw [e, upd_same] at hp; cases hp
    have hp0 : H p = none := by rw [upd_ne npd] at hp; exact hp
    have ncd : c ≠ d := fun e => by rw [e, hd] at hc; cases hc
    have ngd : g ≠ d := fun e => by rw [e, hd] at hg; cases hg
    generalize eH2 : upd (upd H d (.dK (drK g c l (t + 1)))) p (.lst [.int 2147483629, .int 2147483587, .int 2147483579, .int 2147483563, .int 2147483549, .int 2147483543]) = H2
    have fd : H2 d = some (.dK (drK g c l (t + 1))) := by rw [← eH2, upd_ne npd.symm, upd_same]
    have fc : H2 c = some (.lst (cs.map V.int)) := by rw [← eH2, upd_ne (ne_of_none hc hp0), upd_ne ncd]; exact hc
    have fg : H2 g = some (.lst (gs.map V.int)) := by rw [← eH2, upd_ne (ne_of_none hg hp0), upd_ne ngd]; exact hg
    have fp : H2 p = some (.lst (primes.map V.int)) := by rw [← eH2, upd_same]; rfl
    refine ⟨p, rfl, ⟨_, .inl (.inl fp)⟩, for_list (K := K) (a := p) (xs := primes.map V.int)
      (fun i σ H3 => ∃ (v2 v3 v4 : Option V) (f : Int), H2 = H3 ∧ σ = [some (.ref d), some (.int f), v2, v3, v4]) ⟨none, none, none, 0, rfl, rfl⟩ (fun i σ H3 _ ⟨_, _, _, _, e, _⟩ => by rw [← e]; exact .inl (.inl fp)) ?_ ?_⟩
    · rintro i y σ H3 hi ⟨v2, v3, v4, f, rfl, rfl⟩
      obtain ⟨q, rfl, q1, q2⟩ : ∃ q : Int, y = .int q ∧ 2147483543 ≤ q ∧ q ≤ 2147483629 := by
        have hm : y ∈ primes.map V.int := List.mem_of_getElem? hi
        obtain ⟨q, hq, rfl⟩ := List.mem_map.mp hm
        exact ⟨q, rfl, primes_lo q hq, primes_hi q hq⟩
      -- blend = 69997 * turn + prime // 11
      refine ⟨_, rfl, d, _, rfl, dget_of fd (get_turn g c l (t + 1)), _, _, rfl, rfl, .inl ⟨by decide, by decide⟩, _, rfl, _, _, rfl, rfl, ⟨by decide, by decide⟩, _, _, rfl, rfl, ?_⟩
      have b0 : 0 ≤ 69997 * (t + 1) + Int.fdiv q 11 ∧ 69997 * (t + 1) + Int.fdiv q 11 < 9223372036854775808 := by
        rw [Int.fdiv_eq_ediv_of_nonneg _ (by decide)]
        omega
      -- for cell in state["cells"]
      refine ⟨_, rfl, d, _, rfl, dget_of fd (get_cells g c l (t + 1)), c, rfl, ⟨_, .inl (.inl fc)⟩, for_list (K := K) (a := c) (xs := cs.map V.int)
        (fun i σ H3 => ∃ (v4 : Option V) (b : Int), H2 = H3 ∧ (0 ≤ b ∧ b < 9223372036854775808) ∧ σ = [some (.ref d), some (.int f), some (.int q), some (.int b), v4]) ⟨v4, _, rfl, b0, rfl⟩
        (fun i σ H3 _ ⟨_, _, e, _, _⟩ => by rw [← e]; exact .inl (.inl fc)) ?_ ?_⟩
      · rintro j x σ H3 hj ⟨v4, b, rfl, hb, rfl⟩
        obtain ⟨z, hz, rfl⟩ := List.mem_map.mp (List.mem_of_getElem? hj)
        refine ⟨_, rfl, _, _, rfl, rfl, .inr ⟨by decide, by decide⟩, _, rfl, _, _, rfl, rfl, .inl ⟨_, rfl, _, rfl, _, _, rfl, rfl, (by omega), ?_⟩⟩
        refine ⟨_, _, rfl, ?_, rfl⟩
        rw [Int.fmod_eq_emod_of_nonneg _ (by omega)]
        have e1 := Int.emod_nonneg (b * 48271 + z) (b := q) (by omega)
        have e2 := Int.emod_lt_of_pos (b * 48271 + z) (b := q) (by omega)
        omega
      · rintro σ H3 ⟨v4, b, rfl, hb, rfl⟩
        refine ⟨_, rfl, _, _, rfl, rfl, .inr ⟨by decide, by decide⟩, _, rfl, _, _, rfl, rfl, ⟨by decide, by decide, by omega⟩, .inl ⟨_, rfl, _, rfl, _, _, rfl, rfl, (by omega), _, _, rfl, rfl, ?_⟩⟩
        exact ⟨_, _, _, _, rfl, rfl⟩
    · rintro σ H3 ⟨v2, v3, v4, f, rfl, rfl⟩
      refine ⟨_, rfl, k f _ ⟨⟨l, t + 1, by omega, by omega, fd⟩, ⟨gs, fg⟩, ⟨cs, fc⟩, hgc⟩ (fg.trans hg.symm) fun b o h1 h2 e => ?_⟩
      rw [← eH2, upd_ne (ne_of_none e hp0), upd_ne h1]
      exact e
/-- _law_take: some number from 0 to size - 1 -/
def spTake : Sp := fun vs H Q _ => ∃ (d g c : Addr) (m : Nat) (n : Int), vs = [.ref d, .int n] ∧ Dr H d g c m ∧ m ≤ 1000000000 ∧ 0 < n ∧ n < 1000000000 ∧
  ∀ (r : Int) (H' : Hp), 0 ≤ r → r < n → Dr H' d g c (m + 1) → Mv d g H H' → Q (.int r) H'
theorem ok_take (T : Txt K mg) : FnOk P w K mg base CX0 2 T.f_law_take T.fd_law_take ["_law_state", "_law_size"] spTake := by
  have GM : FnOk P w K mg base CX0 1 T.f_law_mixed T.fd_law_mixed ["_law_state"] spMixed := ok_mixed T
  refine T.F_law_take.ok sc_law_take (fun vs H Q E h => ?_) (fun cdv A outer s H vs Q E hr h => ?_)
  · obtain ⟨d, g, c, m, n, rfl, _⟩ := h
    rfl
  · obtain ⟨d, g, c, m, n, rfl, D, hm, n0, n1, k⟩ := h
    have hu := hu_of hr
    refine ⟨_, pss_cons (ps_if (pt_cmpR op_eq (pe_dget hu (pv 0) pe_str (fun _ _ => rfl)) pe_int (nomark _))
        (pss_one (ps_dput hu (pv 0) pe_str (pe_ifExp (pt_cmpR (op_neD hr.units) (pe_dget hu (pv 0) pe_str (fun _ _ => rfl)) (pe_lst pa_nil) (nomark _))
          (pe_bm PySem.F.plainAttrs_list PySem.F.slot_list_pop PySem.F.type_list_pop mt_popAt (pe_dget hu (pv 0) pe_str (fun _ _ => rfl)) (pa_cons pe_int pa_nil))
          (pe_call GM hr rfl T.g_law_mixed T.F_law_mixed.kp T.b_law_mixed .nil pass0 (pa_cons (pv 0) pa_nil))) rfl)) pss_nil)
      (pss_cons (ps_set (i := 2) sc_law_take.nd rfl (Or.inl rfl) (pe_op op_modN (pe_callTy call_int1 (by rfl) T.z_int (by decide +kernel) (pa_cons (pe_dget hu (pv 0) pe_str (fun _ _ => rfl)) pa_nil)) (pv 1)))
      (pss_cons (ps_dput hu (pv 0) pe_str (pe_op op_fdivN (pe_dget hu (pv 0) pe_str (fun _ _ => rfl)) (pv 1)) rfl)
      (pss_one (ps_ret (pv 2))))), ?_⟩
    obtain ⟨⟨l, t, h0, h1, hd⟩, ⟨gs, hg⟩, ⟨cs, hc⟩, hgc⟩ := id D
    have ngd : g ≠ d := fun e => by rw [e, hd] at hg; cases hg
    have ncd : c ≠ d := fun e => by rw [e, hd] at hc; cases hc
    refine ⟨_, rfl, d, _, rfl, dget_of hd (get_left g c l t), rfl, _, rfl, ?_⟩
    have tail : ∀ (x y : Int) (H1 : Hp), 0 ≤ y → y ≤ m + 1 → H1 d = some (.dK (drK g c x y)) → (∃ ns : List Int, H1 g = some (.lst (ns.map V.int))) → H1 c = some (.lst (cs.map V.int)) → Mv d g H H1 →
        (0 ≤ Int.fmod x n ∧ Int.fmod x n < n) ∧ Q (.int (Int.fmod x n)) (upd H1 d (.dK (drK g c (Int.fdiv x n) y))) := by
      intro x y H1 y0 y1 e1 e2 e3 mv
      have r0 : 0 ≤ Int.fmod x n ∧ Int.fmod x n < n := by
        rw [Int.fmod_eq_emod_of_nonneg _ (by omega)]
        exact ⟨Int.emod_nonneg _ (by omega), Int.emod_lt_of_pos _ n0⟩
      obtain ⟨ns, e2⟩ := e2
      refine ⟨r0, k _ _ r0.1 r0.2 ⟨⟨_, y, y0, by omega, upd_same⟩, ⟨ns, by rw [upd_ne ngd]; exact e2⟩, ⟨cs, by rw [upd_ne ncd]; exact e3⟩, hgc⟩ (mv.trans Mv.upd)⟩
    refine ite2 (fun _ => ?_) (fun _ => ?_)
    · refine ⟨_, rfl, d, _, rfl, dget_of hd (get_great g c l t), (by show 0 ≤ sizeLine; decide), fun p hp => ?_⟩
      have sp1 : Same H (upd H p (.lst [])) := same_new hp
      refine ⟨_, _, .lst (.inl (.inl (sp1 _ _ hg))) (dp_ints gs), .lst (.inl (.inl upd_same)) .nil, PySem.W.ke_shaped_ints gs, by decide, _, rfl, ?_⟩
      match gs, hg with
      | [], hg =>
        refine iteF ?_
        refine ⟨_, rfl, d, g, c, m, rfl, D.same sp1, hm, fun r H1 D1 eg mv => ?_⟩
        obtain ⟨⟨l1, t1, g0, g1, hd1⟩, ⟨gs1, hg1⟩, ⟨cs1, hc1⟩, _⟩ := id D1
        refine ⟨_, rfl, d, _, rfl, dput_of hd1 (small4 g c l1 t1) (put_left g c l1 t1 r), ?_⟩
        have hc2 : H1 c = some (.lst (cs.map V.int)) := mv c _ ncd hgc.symm (sp1 _ _ hc)
        obtain ⟨r0, z⟩ := tail r t1 (upd H1 d (.dK (drK g c r t1))) g0 (by omega) upd_same ⟨gs1, by rw [upd_ne ngd]; exact hg1⟩ (by rw [upd_ne ncd]; exact hc2) (((Mv.same sp1).trans mv).trans Mv.upd)
        refine ⟨_, rfl, d, _, rfl, dget_of upd_same (get_left g c r t1), .inl ⟨_, rfl, _, rfl, _, _, rfl, rfl, (by omega), ?_⟩⟩
        exact ⟨_, rfl, d, _, rfl, dget_of upd_same (get_left g c r t1), _, rfl, _, _, rfl, rfl, ⟨by omega, by omega⟩, _, rfl, d, _, rfl, dput_of upd_same (small4 g c r t1) (put_left g c r t1 _), _, rfl, z⟩
      | x :: gs, hg =>
        refine iteT ?_
        refine ⟨_, rfl, d, _, rfl, dget_of (sp1 _ _ hd) (get_great g c l t), .inl ⟨rfl, _, .inl (.inl (sp1 _ _ hg))⟩, g, _, 0, 0, _, rfl, rfl, sp1 _ _ hg, by decide, by decide, ix0 _ _, rfl, ?_⟩
        have hd1 : (upd (upd H p (.lst [])) g (.lst (((x :: gs).map V.int).eraseIdx 0))) d = some (.dK (drK g c l t)) := by rw [upd_ne ngd.symm]; exact sp1 _ _ hd
        refine ⟨_, rfl, d, _, rfl, dput_of hd1 (small4 g c l t) (put_left g c l t x), ?_⟩
        obtain ⟨r0, z⟩ := tail x t (upd (upd (upd H p (.lst [])) g (.lst (((x :: gs).map V.int).eraseIdx 0))) d (.dK (drK g c x t))) h0 (by omega) upd_same ⟨gs, by rw [upd_ne ngd, upd_same]; rfl⟩ (by rw [upd_ne ncd, upd_ne hgc.symm]; exact sp1 _ _ hc) (fun b o b1 b2 e => by rw [upd_ne b1, upd_ne b2]; exact sp1 _ _ e)
        refine ⟨_, rfl, d, _, rfl, dget_of upd_same (get_left g c x t), .inl ⟨_, rfl, _, rfl, _, _, rfl, rfl, (by omega), ?_⟩⟩
        exact ⟨_, rfl, d, _, rfl, dget_of upd_same (get_left g c x t), _, rfl, _, _, rfl, rfl, ⟨by omega, by omega⟩, _, rfl, d, _, rfl, dput_of upd_same (small4 g c x t) (put_left g c x t _), _, rfl, z⟩
    · obtain ⟨r0, z⟩ := tail l t H h0 (by omega) hd ⟨gs, hg⟩ hc (Mv.refl _ _ _)
      refine ⟨_, rfl, d, _, rfl, dget_of hd (get_left g c l t), .inl ⟨_, rfl, _, rfl, _, _, rfl, rfl, (by omega), ?_⟩⟩
      exact ⟨_, rfl, d, _, rfl, dget_of hd (get_left g c l t), _, rfl, _, _, rfl, rfl, ⟨by omega, by omega⟩, _, rfl, d, _, rfl, dput_of hd (small4 g c l t) (put_left g c l t _), _, rfl, z⟩
theorem at_int {α : Type} {xs : List α} {r : Int} (h0 : 0 ≤ r) (h1 : r < xs.length) : ∃ v, v ∈ xs ∧ atI xs r = some v := by
  obtain ⟨j, rfl⟩ := Int.eq_ofNat_of_zero_le h0
  have hj : j < xs.length := by omega
  exact ⟨xs[j], List.getElem_mem hj, atI_nat (List.getElem?_eq_getElem hj)⟩
/-- _law_pick: a sign of a text that is not empty, an item of a list that is not empty -/
def spPick : Sp := fun vs H Q _ => ∃ (d g c : Addr) (m : Nat), Dr H d g c m ∧ m ≤ 1000000000 ∧
  ((∃ z : Str, vs = [.ref d, .str z] ∧ 0 < z.length ∧ z.length ≤ 1000 ∧ ∀ (x : Nat) (H' : Hp), x ∈ z.cps.toList → Dr H' d g c (m + 1) → Mv d g H H' → Q (.str ⟨#[x]⟩) H') ∨
   (∃ (p : Addr) (xs : List V), vs = [.ref d, .ref p] ∧ H p = some (.lst xs) ∧ p ≠ g ∧ 0 < xs.length ∧ xs.length ≤ 1000 ∧ ∀ (x : V) (H' : Hp), x ∈ xs → Dr H' d g c (m + 1) → Mv d g H H' → Q x H'))
theorem ok_pick (T : Txt K mg) : FnOk P w K mg base CX0 3 T.f_law_pick T.fd_law_pick ["_law_state", "_law_some"] spPick := by
  have GT : FnOk P w K mg base CX0 2 T.f_law_take T.fd_law_take ["_law_state", "_law_size"] spTake := ok_take T
  refine T.F_law_pick.ok sc_law_pick (fun vs H Q E h => ?_) (fun cdv A outer s H vs Q E hr h => ?_)
  · obtain ⟨d, g, c, m, _, _, ⟨z, rfl, _⟩ | ⟨p, xs, rfl, _⟩⟩ := h
    · rfl
    · rfl
  · obtain ⟨d, g, c, m, D, hm, h⟩ := h
    refine ⟨_, pss_one (ps_ret (pe_ix ix_seq (pv 1) (pe_call GT hr rfl T.g_law_take T.F_law_take.kp T.b_law_take .nil pass0 (pa_cons (pv 0) (pa_cons (pe_callB call_len (by rfl) T.z_len PySem.boot_len (pa_cons (pv 1) pa_nil)) pa_nil))) (fun _ _ => rfl))), ?_⟩
    rcases h with ⟨z, rfl, z0, z1, k⟩ | ⟨p, xs, rfl, hp, npg, z0, z1, k⟩
    · have zs : z.length ≤ sizeLine := Nat.le_of_lt (small1000 z1)
      refine ⟨_, rfl, _, rfl, _, rfl, _, z.length, rfl, ⟨zs, rfl⟩, d, g, c, m, _, rfl, D, hm, by omega, by omega, fun r H' r0 r1 D' mv => ?_⟩
      obtain ⟨x, hx, ex⟩ := at_int (xs := z.cps.toList) r0 (by show r < (z.length : Int); omega)
      exact .inr (.inr ⟨z, r, x, rfl, rfl, zs, ex, k _ H' hx D' mv⟩)
    · refine ⟨_, rfl, _, rfl, _, rfl, _, xs.length, rfl, .inl ⟨xs, .inl (.inl hp), rfl⟩, d, g, c, m, _, rfl, D, hm, by omega, by omega, fun r H' r0 r1 D' mv => ?_⟩
      have npd : p ≠ d := by
        obtain ⟨l, t, _, _, hd⟩ := D.di
        exact ne_of hp hd (by intro z; cases z)
      obtain ⟨x, hx, ex⟩ := at_int (xs := xs) r0 r1
      exact .inl ⟨p, xs, r, x, rfl, rfl, .inl (.inl (mv p _ npd npg hp)), ex, k _ H' hx D' mv⟩
/-- _law_begun: a new state -/
def spBegun (K : PySem.W.Frag) : Sp := fun vs H Q _ => ∃ (a : Addr) (ns : List Int), vs = [.ref a] ∧ SqL K H a (ns.map V.int) ∧ ns.length ≤ 1000 ∧
  ∀ (d g c : Addr) (H' : Hp), H d = none → H g = none → H c = none → Dr H' d g c 0 → Same H H' → Q (.ref d) H'
theorem ok_begun (T : Txt K mg) : FnOk P w K mg base CX0 1 T.f_law_begun T.fd_law_begun ["_law_script"] (spBegun K) := by
  refine T.F_law_begun.ok sc_law_begun (fun vs H Q E h => ?_) (fun cdv A outer s H vs Q E hr h => ?_)
  · obtain ⟨a, ns, rfl, _⟩ := h
    rfl
  · obtain ⟨a, ns, rfl, hS, hl, k⟩ := h
    refine ⟨_, pss_cons (ps_setLc (i := 1) (own := [("_law_cell", 2)]) (g := gName 2) rfl sc_law_begun.nd rfl rfl (sw_true rfl rfl rfl (by decide +kernel)) (pi_list (pv 0))
        (blkOk_by (own := [("_law_cell", 2)]) (N := n_law_begun) (sc := defScope s_law_begun) (by decide +kernel))
        (fun _ _ _ _ _ => pg_name (i := 2) sc_law_begun.nd rfl (Or.inl rfl))
        (fun _ _ _ _ _ => pts_one (pt_cmpR op_ge (pv 2) (pe_op op_pow pe_int pe_int) (nomark _)))
        (fun _ _ _ _ _ => pe_op op_sub (pv 2) (pe_op op_pow pe_int pe_int)))
      (pss_one (ps_ret (pe_disp (pps_cons pe_str (pv 1) (pps_cons pe_str (pe_callTy call_list_of (by rfl) T.z_list (by decide +kernel) (pa_cons (pv 0) pa_nil)) (pps_cons pe_str pe_int (pps_cons pe_str pe_int pps_nil)))) (by rfl) (by rfl) (fun z => by cases z) (by decide)))), ?_⟩
    refine ⟨_, rfl, a, rfl, ⟨_, hS⟩, fun D hD => ?_⟩
    have sm : ∀ o, Same H (upd H D o) := fun o => same_new hD
    refine lc_list (K := K) (a := a) (xs := ns.map V.int) (fun i H1 => ∃ gs : List Int, H1 = upd H D (.lst (gs.map V.int)) ∧ gs.length ≤ i) ⟨[], rfl, Nat.le_refl _⟩
      (fun i H1 _ ⟨gs, e, _⟩ => by rw [e]; exact (sm _).seq hS) ?_ ?_
    · rintro i x H1 hx ⟨gs, rfl, hg⟩
      have hi : i < (ns.map V.int).length := (List.getElem?_eq_some_iff.mp hx).1
      rw [List.length_map] at hi
      obtain ⟨z, hz, rfl⟩ := List.mem_map.mp (List.mem_of_getElem? hx)
      refine ⟨rfl, _, rfl, _, _, rfl, rfl, ⟨by decide, by decide, by decide⟩, _, _, rfl, rfl, _, rfl, ?_⟩
      refine ite2 (fun _ => ?_) (fun _ => ?_)
      · refine ⟨_, rfl, _, _, rfl, rfl, ⟨by decide, by decide, by decide⟩, _, _, rfl, rfl, _, upd_same, ?_, ?_⟩
        · rw [List.length_map]
          exact small1000 (by omega)
        · refine ⟨gs ++ [z - 10 ^ 18], ?_, by rw [List.length_append]; show gs.length + 1 ≤ i + 1; omega⟩
          rw [upd_upd, List.map_append]
          rfl
      · exact ⟨gs, rfl, by omega⟩
    · rintro H1 ⟨gs, rfl, hg⟩
      intro d hd
      have nDd : D ≠ d := fun e => by rw [← e, upd_same] at hd; cases hd
      have hd0 : H d = none := by rw [upd_ne nDd.symm] at hd; exact hd
      have s1 : Same (upd H D (.lst (gs.map V.int))) (upd (upd H D (.lst (gs.map V.int))) d (.dK [])) := same_new hd
      refine ⟨_, rfl, _, rfl, a, _, rfl, .inl (s1.seq ((sm _).seq hS)), fun c hc => ?_⟩
      have s2 : Same (upd (upd H D (.lst (gs.map V.int))) d (.dK [])) (upd (upd (upd H D (.lst (gs.map V.int))) d (.dK [])) c (.lst (ns.map V.int))) := same_new hc
      have hgD := s2 _ _ (s1 _ _ (upd_same (H := H) (a := D) (o := .lst (gs.map V.int))))
      have hdd := s2 _ _ (upd_same (H := upd H D (.lst (gs.map V.int))) (a := d) (o := .dK []))
      have ndc : d ≠ c := fun e => by rw [← e, upd_same] at hc; cases hc
      have nDc : D ≠ c := fun e => by rw [← e] at hc; rw [s1 _ _ upd_same] at hc; cases hc
      have hc0 : H c = none := by rw [upd_ne ndc.symm, upd_ne nDc.symm] at hc; exact hc
      refine ⟨hdd, drK D c 0 0, rfl, by show 4 ≤ 15; decide, ?_⟩
      have em : mergeK [] (drK D c 0 0) = drK D c 0 0 := by kernel_rfl
      rw [em]
      refine k d D c _ hd0 hD hc0 ⟨⟨0, 0, by omega, by omega, upd_same⟩, ⟨gs, ?_⟩, ⟨ns, ?_⟩, nDc⟩ fun b o e => ?_
      · rw [upd_ne nDd]; exact hgD
      · rw [upd_ne ndc.symm, upd_same]
      · rw [upd_ne (ne_of_none e hd0)]; exact s2 _ _ (s1 _ _ (sm _ _ _ e))
end
end Sn

/-! ## The program's is_word, is_name, is_path -/
namespace Sn
open PySem PySem.Spec PyProof.Rows L2 TL

/-- a value that is no text -/
def NoStr (K : PySem.W.Frag) (H : Hp) (v : V) : Prop := ∃ t, TyX K H v t ∧ PySem.W.kitOne K t (.type "str") = some false
/-- a value that may be asked: a text that is not too long, or no text -/
def Arg (K : PySem.W.Frag) (H : Hp) (v : V) : Prop := (∃ z : Str, v = .str z ∧ z.length ≤ 1000) ∨ NoStr K H v
def ans (f : Str → Bool) : V → Bool
  | .str z => f z
  | _ => false
theorem NoStr.ans {K : PySem.W.Frag} {H : Hp} {v : V} (h : NoStr K H v) (f : Str → Bool) : ans f v = false := by
  obtain ⟨t, ty, hk⟩ := h
  cases v with
  | str z =>
    cases ty with
    | base b =>
      cases b
      have e : PySem.W.kitOne K (.type "str") (.type "str") = some true := kit_ty (by decide +kernel)
      rw [e] at hk
      cases hk
  | _ => rfl
theorem tyX_same {K : PySem.W.Frag} {H H' : Hp} {v : V} {t : Value} (s : Same H H') (h : TyX K H v t) : TyX K H' v t := by
  cases h with
  | base b =>
    refine .base ?_
    cases b with
    | non => exact .non
    | bl x => exact .bl x
    | int x => exact .int x
    | str x => exact .str x
    | flt x => exact .flt x
    | lst e => exact .lst (s _ _ e)
    | frz e => exact .frz (s _ _ e)
    | tup e => exact .tup (s _ _ e)
    | dK e => exact .dK (s _ _ e)
    | dT e => exact .dT (s _ _ e)
    | ins e a b c d f => exact .ins (s _ _ e) a b c d f
  | byt b => exact .byt b
  | set e => exact .set (s _ _ e)
  | kList e c => exact .kList e c
  | kTuple e c => exact .kTuple e c
  | kDict e c => exact .kDict e c
  | fTuple e => exact .fTuple (s _ _ e)
  | fDict e => exact .fDict (s _ _ e)
theorem Arg.same {K : PySem.W.Frag} {H H' : Hp} {v : V} (h : Arg K H v) (s : Same H H') : Arg K H' v := by
  rcases h with h | ⟨t, ty, hk⟩
  · exact .inl h
  · exact .inr ⟨t, tyX_same s ty, hk⟩
theorem same_in {H0 H2 : Hp} {D : Addr} {o : HO} (s : Same H0 H2) (h : H0 D = none) : Same H0 (upd H2 D o) := fun b x e => by
  rw [upd_ne (ne_of_none e h)]
  exact s _ _ e
/-- a question about one value: the answer f of a text, False of any other value -/
def spAsk (K : PySem.W.Frag) (f : Str → Bool) : Sp := fun vs H Q _ => ∃ v : V, vs = [v] ∧ Arg K H v ∧ ∀ H', Same H H' → Q (.bl (ans f v)) H'
theorem len_le {z : Str} (h : z.length ≤ 1000) : z.length ≤ sizeLine := Nat.le_of_lt (small1000 h)
theorem takes {α : Type} {l : List α} {i : Nat} {x : α} (h : l[i]? = some x) : l.take (i + 1) = l.take i ++ [x] := by
  rw [List.take_add_one, h]; rfl

section
variable {P : Program} {w : World} {K : PySem.W.Frag} {mg : Str → Option Value} {base : Heap}
theorem ok_word (T : Txt K mg) : FnOk P w K mg base CX0 1 T.f_is_word T.fd_is_word ["value"] (spAsk K isW) := by
  obtain ⟨t1, g1⟩ := T.c_MOST_SIGNS
  obtain ⟨t2, g2⟩ := T.c_SIGNS
  refine T.F_is_word.ok sc_is_word (fun vs H Q E h => ?_) (fun cdv A outer s H vs Q E hr h => ?_)
  · obtain ⟨v, rfl, _⟩ := h
    rfl
  · obtain ⟨v, rfl, ha, k⟩ := h
    refine ⟨_, pss_one (ps_ret (pe_and (pe_callB call_isi (by rfl) T.z_isinstance (by decide +kernel) (pa_cons (pv 0) (pa_cons (pe_bltn (v := .ty "str") (by rfl) T.z_str (by decide +kernel) rfl) pa_nil)))
      (pe_and (pe_cmpR op_le (pe_callB call_len (by rfl) T.z_len PySem.boot_len (pa_cons (pv 0) pa_nil)) (pe_glob (v := .int 8) rfl g1 ⟨_, rfl⟩) (nomark _))
      (pe_one (pe_callB (cr_all rfl) (by rfl) T.z_all (by decide +kernel) (pa_cons (pe_lc (own := [("sign", 1)]) (g := gName 1) (by rfl) sc_is_word.nd (pi_str (pv 0))
        (blkOk_by (own := [("sign", 1)]) (N := n_is_word) (sc := defScope s_is_word) (by decide +kernel))
        (fun _ _ _ _ _ => pg_name (i := 1) sc_is_word.nd rfl (Or.inl rfl)) (fun _ _ _ _ _ => pts_nil)
        (fun _ _ _ _ _ => pe_cmpR op_in_sign (pv 1) (pe_glob (v := .str sgnS) rfl g2 ⟨_, rfl⟩) rfl)) pa_nil)))))), ?_⟩
    rcases ha with ⟨z, rfl, hz⟩ | hn
    · refine ⟨_, rfl, _, .ty "str", .type "str", .type "str", true, rfl, .ty "str", .base (.str z), kit_ty (by decide +kernel), true, rfl, iteT ?_⟩
      refine ⟨_, rfl, _, z.length, rfl, ⟨len_le hz, rfl⟩, _, _, rfl, rfl, _, rfl, ?_⟩
      by_cases h8 : z.length ≤ 8
      · rw [decide_eq_true (show (z.length : Int) ≤ 8 by omega)]
        refine iteT ?_
        refine ⟨_, rfl, z, rfl, fun D hD => ?_⟩
        refine lc_it walk_str (fun i H1 => H1 = upd H D (.lst (((tl z).take i).map fun c => V.bl (decide (c ∈ tl sgnS))))) rfl (fun _ _ _ _ => trivial) ?_ ?_
        · rintro i x H1 H2 hi rfl ⟨rfl, c, hc, rfl⟩
          refine ⟨rfl, ?_⟩
          have hc2 : (tl z)[i]? = some c := by simpa using hc
          refine ⟨_, rfl, c, sgnS, rfl, rfl, _, upd_same, ?_, ?_⟩
          · rw [List.length_map]
            have : ((tl z).take i).length ≤ z.length := by rw [List.length_take, len_tl]; omega
            exact small1000 (by omega)
          · rw [upd_upd, takes hc2, List.map_append]; rfl
        · rintro H1 rfl
          refine ⟨D, (tl z).map fun c => decide (c ∈ tl sgnS), rfl, .inl (.inl ?_), ?_⟩
          · rw [upd_same, show z.cps.size = (tl z).length by simp, List.take_length, List.map_map]; rfl
          · have e : isW z = (((tl z).map fun c => decide (c ∈ tl sgnS)).all id) := by
              unfold isW
              rw [decide_eq_true h8, Bool.true_and, List.all_map]; rfl
            have q := k _ (same_new (H := H) (p := D) (o := .lst (((tl z).take z.cps.size).map fun c => V.bl (decide (c ∈ tl sgnS)))) hD)
            show Q (.bl _) _
            rw [← e]
            exact q
      · rw [decide_eq_false (show ¬ (z.length : Int) ≤ 8 by omega)]
        refine iteF ?_
        have e : isW z = false := by unfold isW; rw [decide_eq_false h8, Bool.false_and]
        have q := k H (Same.refl H)
        rw [show ans isW (.str z) = isW z from rfl, e] at q
        exact q
    · obtain ⟨t, ty, hk⟩ := id hn
      refine ⟨_, rfl, _, .ty "str", t, .type "str", false, rfl, .ty "str", ty, hk, false, rfl, iteF ?_⟩
      have q := k H (Same.refl H)
      rw [hn.ans] at q
      exact q
theorem ok_name (T : Txt K mg) : FnOk P w K mg base CX0 2 T.f_is_name T.fd_is_name ["value"] (spAsk K isN) := by
  have GW : FnOk P w K mg base CX0 1 T.f_is_word T.fd_is_word ["value"] (spAsk K isW) := ok_word T
  obtain ⟨t1, g1⟩ := T.c_LETTERS
  refine T.F_is_name.ok sc_is_name (fun vs H Q E h => ?_) (fun cdv A outer s H vs Q E hr h => ?_)
  · obtain ⟨v, rfl, _⟩ := h
    rfl
  · obtain ⟨v, rfl, ha, k⟩ := h
    refine ⟨_, pss_one (ps_ret (pe_and (pe_call GW hr rfl T.g_is_word T.F_is_word.kp T.b_is_word .nil pass0 (pa_cons (pv 0) pa_nil))
      (pe_and (pe_cmpR op_in_seq (pe_slice sl_str (pv 0) po_none (po_some pe_int)) (pe_callTy call_tupS (by rfl) T.z_tuple (by decide +kernel) (pa_cons (pe_glob (v := .str letS) rfl g1 ⟨_, rfl⟩) pa_nil)) (by rfl))
      (pe_one (pe_cmpR op_notIn_seq (pv 0) (pe_glob (v := .ref T.a_RESERVED) rfl T.c_RESERVED rfl) (by rfl)))))), ?_⟩
    refine ⟨_, rfl, v, rfl, ha, fun H1 s1 => ⟨_, rfl, ?_⟩⟩
    by_cases hw : ans isW v = true
    · rw [hw]
      refine iteT ?_
      rcases ha with ⟨z, rfl, hz⟩ | hn
      · have hw2 : isW z = true := hw
        refine ⟨_, rfl, _, rfl, z, rfl, len_le hz, letS, rfl, hr.hd, by decide +kernel, fun l hl => ?_⟩
        refine ⟨l, _, rfl, .inr (.inl (.inl upd_same)), rfl, ?_, _, rfl, ?_⟩
        · rw [signs_map]; exact flat_strs _
        · have s2 : Same H (upd H1 l (.tup ((tl letS).map fun c => V.str ⟨#[c]⟩))) := s1.trans (same_new hl)
          have e1 : inV (.str (cutS z none (some 1))) ((tl letS).map fun c => V.str ⟨#[c]⟩) = fstL z := fst_in z
          show if (inV (.str (cutS z none (some 1))) ((tl letS).map fun c => V.str ⟨#[c]⟩)) = true then _ else _
          rw [e1]
          by_cases hf : fstL z = true
          · rw [hf]
            refine iteT ?_
            refine ⟨_, rfl, T.a_RESERVED, resv.map V.str, rfl, .inr (T.q_RESERVED _), rfl, flat_strs _, ?_⟩
            have q := k _ s2
            have e : ans isN (.str z) = !inV (.str z) (resv.map V.str) := by
              show isN z = _
              unfold isN
              rw [hw2, hf, inV_strs]; rfl
            rw [e] at q
            exact q
          · rw [show fstL z = false by simpa using hf]
            refine iteF ?_
            have q := k _ s2
            have e : ans isN (.str z) = false := by
              show isN z = _
              unfold isN
              rw [hw2, show fstL z = false by simpa using hf]; rfl
            rw [e] at q
            exact q
      · rw [hn.ans] at hw
        cases hw
    · rw [show ans isW v = false by simpa using hw]
      refine iteF ?_
      have e : ans isN v = false := by
        cases v with
        | str z =>
          show isN z = _
          unfold isN
          rw [show isW z = false from Bool.eq_false_iff.mpr hw]; rfl
        | _ => rfl
      have q := k H1 s1
      rw [e] at q
      exact q
theorem ok_path (T : Txt K mg) : FnOk P w K mg base CX0 3 T.f_is_path T.fd_is_path ["value"] (spAsk K isP) := by
  have GN : FnOk P w K mg base CX0 2 T.f_is_name T.fd_is_name ["value"] (spAsk K isN) := ok_name T
  refine T.F_is_path.ok sc_is_path (fun vs H Q E h => ?_) (fun cdv A outer s H vs Q E hr h => ?_)
  · obtain ⟨v, rfl, _⟩ := h
    rfl
  · obtain ⟨v, rfl, ha, k⟩ := h
    refine ⟨_, pss_cons (ps_if (pt_not (pt_val (pe_callB call_isi (by rfl) T.z_isinstance (by decide +kernel) (pa_cons (pv 0) (pa_cons (pe_bltn (v := .ty "str") (by rfl) T.z_str (by decide +kernel) rfl) pa_nil))))) (pss_one (ps_ret pe_bl)) pss_nil)
      (pss_cons (ps_set (i := 1) sc_is_path.nd rfl (Or.inl rfl) (pe_split (pv 0) pe_str))
      (pss_one (ps_ret (pe_and (pe_cmpR op_eq (pe_callB call_len (by rfl) T.z_len PySem.boot_len (pa_cons (pv 1) pa_nil)) pe_int (nomark _))
        (pe_one (pe_callB (cr_all rfl) (by rfl) T.z_all (by decide +kernel) (pa_cons (pe_lc (own := [("part", 2)]) (g := gName 2) (by rfl) sc_is_path.nd (pi_list (pv 1))
          (blkOk_by (own := [("part", 2)]) (N := n_is_path) (sc := defScope s_is_path) (by decide +kernel))
          (fun _ _ _ _ _ => pg_name (i := 2) sc_is_path.nd rfl (Or.inl rfl)) (fun _ _ _ _ _ => pts_nil)
          (fun _ _ _ _ _ => pe_call GN hr rfl T.g_is_name T.F_is_name.kp T.b_is_name .nil pass0 (pa_cons (pv 2) pa_nil))) pa_nil))))))), ?_⟩
    rcases ha with ⟨z, rfl, hz⟩ | hn
    · refine ⟨_, rfl, _, .ty "str", .type "str", .type "str", true, rfl, .ty "str", .base (.str z), kit_ty (by decide +kernel), true, rfl, iteF ?_⟩
      refine ⟨_, rfl, ⟨_, rfl⟩, z, dotS, rfl, rfl, by decide +kernel, by rw [sizeLine_eq]; omega, fun p hp => ?_⟩
      generalize ep : Txt.split z dotS = ps
      have s1 : Same H (upd H p (.lst (ps.map V.str))) := same_new hp
      have eP : isP z = (decide (ps.length = 2) && ps.all isN) := by rw [← ep]; rfl
      refine ⟨_, rfl, _, ps.length, rfl, .inl ⟨_, .inl (.inl upd_same), by rw [List.length_map]⟩, rfl, _, rfl, ?_⟩
      by_cases h2 : ps.length = 2
      · rw [show (decide (V.int (ps.length : Int) = V.int 2)) = true by rw [h2]; rfl]
        refine iteT ?_
        refine ⟨_, rfl, p, rfl, ⟨_, .inl (.inl upd_same)⟩, fun D hD => ?_⟩
        refine lc_list (K := K) (a := p) (xs := ps.map V.str) (fun i H2 => Same (upd H p (.lst (ps.map V.str))) H2 ∧ H2 D = some (.lst (((ps.take i).map isN).map V.bl)))
          ⟨same_new hD, by rw [upd_same]; rfl⟩ (fun i H2 _ q => .inl (.inl (q.1 _ _ upd_same))) ?_ ?_
        · rintro i x H2 hx ⟨q1, q2⟩
          obtain ⟨y, hy, rfl⟩ : ∃ y, ps[i]? = some y ∧ V.str y = x := by
            rw [List.getElem?_map] at hx
            cases e : ps[i]? with
            | none => rw [e] at hx; cases hx
            | some y => rw [e] at hx; exact ⟨y, rfl, Option.some.inj hx⟩
          have hyl : y.length ≤ 1000 := by
            have := split_le z y (by rw [ep]; exact List.mem_of_getElem? hy)
            omega
          refine ⟨rfl, ?_⟩
          refine ⟨_, rfl, _, rfl, .inl ⟨y, rfl, hyl⟩, fun H3 s3 => ⟨_, s3 _ _ q2, ?_, same_in (q1.trans s3) hD, ?_⟩⟩
          · rw [List.length_map, List.length_map]
            have : (ps.take i).length ≤ ps.length := by rw [List.length_take]; omega
            exact small1000 (by omega)
          · rw [upd_same, takes hy, List.map_append, List.map_append]; rfl
        · rintro H2 ⟨q1, q2⟩
          rw [List.length_map, List.take_length] at q2
          refine ⟨D, ps.map isN, rfl, .inl (.inl q2), ?_⟩
          have q := k H2 (s1.trans q1)
          rw [show ans isP (.str z) = ((ps.map isN).all id) by
            show isP z = _
            rw [eP, decide_eq_true h2, Bool.true_and, List.all_map]; rfl] at q
          exact q
      · rw [show (decide (V.int (ps.length : Int) = V.int 2)) = false by
          refine decide_eq_false fun e => h2 ?_
          injection e with e
          omega]
        refine iteF ?_
        have q := k _ s1
        rw [show ans isP (.str z) = false by
          show isP z = _
          rw [eP, decide_eq_false h2, Bool.false_and]] at q
        exact q
    · obtain ⟨t, ty, hk⟩ := id hn
      refine ⟨_, rfl, _, .ty "str", t, .type "str", false, rfl, .ty "str", ty, hk, false, rfl, iteT ?_⟩
      have q := k H (Same.refl H)
      rw [hn.ans] at q
      exact q
end
end Sn

/-! ## The laws' drawn words and names: _law_reserved, _law_any_word, _law_any_name -/
namespace Sn
open PySem PySem.Spec PyProof.Rows L2 TL
def wordsS : Str := "as ask call def each else entry except fail if in let offer return set table there try use"
theorem words_split : Txt.split wordsS " " = resv := by decide +kernel
section
variable {P : Program} {w : World} {K : PySem.W.Frag} {mg : Str → Option Value} {base : Heap}
def spRes : Sp := fun vs H Q _ => vs = [] ∧ ∀ p, H p = none → Q (.ref p) (upd H p (.lst (resv.map V.str)))
theorem ok_reserved (T : Txt K mg) : FnOk P w K mg base CX0 1 T.f_law_reserved T.fd_law_reserved [] spRes := by
  refine T.F_law_reserved.ok sc_law_reserved (fun vs H Q E h => ?_) (fun cdv A outer s H vs Q E hr h => ?_)
  · obtain ⟨rfl, _⟩ := h
    rfl
  · obtain ⟨rfl, k⟩ := h
    refine ⟨_, pss_cons (ps_set (i := 0) sc_law_reserved.nd rfl (Or.inl rfl) pe_str) (pss_one (ps_ret (pe_split (pv 0) pe_str))), ?_⟩
    refine ⟨_, rfl, ⟨_, rfl⟩, wordsS, " ", rfl, rfl, by decide +kernel, by decide +kernel, fun p hp => ?_⟩
    rw [words_split]
    exact k p hp
/-- a drawn word: its length and its signs are told -/
def spAnyW : Sp := fun vs H Q _ => ∃ (d g c : Addr) (m a b : Nat), vs = [.ref d, .int a, .int b] ∧ Dr H d g c m ∧ m + 30 ≤ 1000000000 ∧ a ≤ b ∧ b ≤ 20 ∧
  ∀ (z : Str) (H' : Hp), a ≤ z.length → z.length ≤ b → (∀ x ∈ tl z, x ∈ tl sgnS) → Dr H' d g c (m + 30) → Mv d g H H' → Q (.str z) H'
theorem ok_any_word (T : Txt K mg) : FnOk P w K mg base CX0 4 T.f_law_any_word T.fd_law_any_word ["_law_state", "_law_least", "_law_most"] spAnyW := by
  have GT : FnOk P w K mg base CX0 2 T.f_law_take T.fd_law_take ["_law_state", "_law_size"] spTake := ok_take T
  have GP : FnOk P w K mg base CX0 3 T.f_law_pick T.fd_law_pick ["_law_state", "_law_some"] spPick := ok_pick T
  refine T.F_law_any_word.ok sc_law_any_word (fun vs H Q E h => ?_) (fun cdv A outer s H vs Q E hr h => ?_)
  · obtain ⟨d, g, c, m, a, b, rfl, _⟩ := h
    rfl
  · obtain ⟨d, g, c, m, a, b, rfl, D, hm, hab, hb, k⟩ := h
    have hr2 := hr.mono (j := 2) (by decide)
    refine ⟨_, pss_cons (ps_set (i := 3) sc_law_any_word.nd rfl (Or.inr rfl) pe_str)
      (pss_one (ps_ret (pe_join pe_str (pe_lc (own := [("_law_turn", 4)]) (g := gName 4) (by rfl) sc_law_any_word.nd
        (pi_range1 (by rfl) T.z_range (pa_cons (pe_op op_add (pv 1) (pe_call GT hr2 rfl T.g_law_take T.F_law_take.kp T.b_law_take .nil pass0 (pa_cons (pv 0) (pa_cons (pe_op op_add (pe_op op_sub (pv 2) (pv 1)) pe_int) pa_nil)))) pa_nil))
        (blkOk_by (own := [("_law_turn", 4)]) (N := n_law_any_word) (sc := defScope s_law_any_word) (by decide +kernel))
        (fun _ _ _ _ _ => pg_name (i := 4) sc_law_any_word.nd rfl (Or.inl rfl)) (fun _ _ _ _ _ => pts_nil)
        (fun _ _ _ _ _ => pe_call GP hr rfl T.g_law_pick T.F_law_pick.kp T.b_law_pick .nil pass0 (pa_cons (pv 0) (pa_cons (pv 3) pa_nil))))))), ?_⟩
    refine ⟨⟨_, rfl⟩, _, rfl, _, rfl, _, rfl, _, rfl, _, _, rfl, rfl, _, _, rfl, rfl, d, g, c, m, _, rfl, D, by omega, by omega, by omega, fun r H1 r0 r1 D1 mv1 => ?_⟩
    obtain ⟨n, rfl⟩ := Int.eq_ofNat_of_zero_le r0
    refine ⟨_, _, rfl, rfl, _, rfl, by omega, by omega, fun L hL => ?_⟩
    have nd : ∀ {m : Nat} {H2 : Hp}, Dr H2 d g c m → H2 L = none → L ≠ d ∧ L ≠ g := fun {m H2} D2 h => by
      obtain ⟨⟨l, t, _, _, hd⟩, ⟨gs, hg⟩, _, _⟩ := D2
      exact ⟨(ne_of_none hd h).symm, (ne_of_none hg h).symm⟩
    obtain ⟨nLd, nLg⟩ := nd D1 hL
    have e0 : ((a : Int) + (n : Int)).toNat = a + n := by omega
    refine lc_range (lo := 0) (n := ((a : Int) + (n : Int)).toNat) (fun i H2 => ∃ l : List Nat, l.length = i ∧ (∀ x ∈ l, x ∈ tl sgnS) ∧ H2 L = some (.lst (l.map fun c => V.str ⟨#[c]⟩)) ∧ Dr H2 d g c (m + 1 + i) ∧ Mv d g H H2)
      ⟨[], rfl, (fun x hx => nomatch hx), upd_same, D1.same (same_new hL), mv1.trans (Mv.same (same_new hL))⟩ ?_ ?_
    · rintro i H2 hi ⟨l, rfl, hs, hl, D2, mv2⟩
      refine ⟨rfl, ?_⟩
      refine ⟨_, rfl, _, rfl, d, g, c, _, D2, by omega, .inl ⟨sgnS, rfl, by decide +kernel, by decide +kernel, fun x H3 hx D3 mv3 => ?_⟩⟩
      refine ⟨_, mv3 _ _ nLd nLg hl, by rw [List.length_map]; exact small1000 (by omega), l ++ [x], by simp, ?_, ?_, ?_, ?_⟩
      · intro y hy
        rcases List.mem_append.mp hy with q | q
        · exact hs y q
        · rw [List.mem_singleton.mp q]; exact hx
      · rw [upd_same, List.map_append]; rfl
      · obtain ⟨⟨l1, t1, q0, q1, q2⟩, ⟨gs, q3⟩, ⟨cs, q4⟩, q5⟩ := D3
        have nLc : c ≠ L := fun e => by
          obtain ⟨_, _, ⟨cs', q6⟩, _⟩ := D1
          rw [e, hL] at q6; cases q6
        exact ⟨⟨l1, t1, q0, by omega, by rw [upd_ne nLd.symm]; exact q2⟩, ⟨gs, by rw [upd_ne nLg.symm]; exact q3⟩, ⟨cs, by rw [upd_ne nLc]; exact q4⟩, q5⟩
      · intro b o h1 h2 e
        have nb : b ≠ L := by
          have q := mv1 b o h1 h2 e
          exact ne_of_none q hL
        rw [upd_ne nb]
        exact mv3 _ _ h1 h2 (mv2 _ _ h1 h2 e)
    · rintro H2 ⟨l, hl0, hs, hl, D2, mv2⟩
      refine ⟨_, L, l.map (fun c => (⟨#[c]⟩ : Str)), rfl, rfl, .inl (.inl (.inl (by rw [← signs_map]; exact hl))), ?_, ?_⟩
      · have e1 : ((l.map (fun c => (⟨#[c]⟩ : Str))).map (·.length)).sum = l.length := by
          rw [List.map_map]
          have key : ∀ l : List Nat, (l.map ((fun z : Str => z.length) ∘ fun c => (⟨#[c]⟩ : Str))).sum = l.length := by
            intro l
            induction l with
            | nil => rfl
            | cons x r ih => rw [List.map_cons, List.sum_cons, ih, List.length_cons]; show 1 + r.length = _; omega
          exact key l
        rw [e1, show ("" : Str).length = 0 by decide +kernel]
        omega
      · have e := join_signs l
        have el : (Txt.join "" (l.map fun c => (⟨#[c]⟩ : Str))).length = l.length := by rw [len_tl, e]
        exact k _ _ (by omega) (by omega) (by rw [e]; exact hs) (D2.mono (by omega)) mv2
/-- a drawn name -/
def spAnyN : Sp := fun vs H Q _ => ∃ (d g c : Addr) (m : Nat), vs = [.ref d] ∧ Dr H d g c m ∧ m + 40 ≤ 1000000000 ∧
  ∀ (z : Str) (H' : Hp), isN z = true → Dr H' d g c (m + 40) → Mv d g H H' → Q (.str z) H'
theorem dr_new {H : Hp} {d g c p : Addr} {m : Nat} (D : Dr H d g c m) (h : H p = none) : p ≠ d ∧ p ≠ g ∧ p ≠ c := by
  obtain ⟨⟨l, t, _, _, hd⟩, ⟨gs, hg⟩, ⟨cs, hc⟩, _⟩ := D
  exact ⟨(ne_of_none hd h).symm, (ne_of_none hg h).symm, (ne_of_none hc h).symm⟩
theorem ok_any_name (T : Txt K mg) : FnOk P w K mg base CX0 5 T.f_law_any_name T.fd_law_any_name ["_law_state"] spAnyN := by
  have GT : FnOk P w K mg base CX0 2 T.f_law_take T.fd_law_take ["_law_state", "_law_size"] spTake := ok_take T
  have GP : FnOk P w K mg base CX0 3 T.f_law_pick T.fd_law_pick ["_law_state", "_law_some"] spPick := ok_pick T
  have GR : FnOk P w K mg base CX0 1 T.f_law_reserved T.fd_law_reserved [] spRes := ok_reserved T
  have GA : FnOk P w K mg base CX0 4 T.f_law_any_word T.fd_law_any_word ["_law_state", "_law_least", "_law_most"] spAnyW := ok_any_word T
  refine T.F_law_any_name.ok sc_law_any_name (fun vs H Q E h => ?_) (fun cdv A outer s H vs Q E hr h => ?_)
  · obtain ⟨d, g, c, m, rfl, _⟩ := h
    rfl
  · obtain ⟨d, g, c, m, rfl, D, hm, k⟩ := h
    have hr1 := hr.mono (j := 1) (by decide)
    have hr2 := hr.mono (j := 2) (by decide)
    have hr3 := hr.mono (j := 3) (by decide)
    refine ⟨_, pss_cons (ps_set (i := 1) sc_law_any_name.nd rfl (Or.inl rfl) (pe_cmpR op_eq (pe_call GT hr2 rfl T.g_law_take T.F_law_take.kp T.b_law_take .nil pass0 (pa_cons (pv 0) (pa_cons pe_int pa_nil))) pe_int (nomark _)))
      (pss_cons (ps_set (i := 2) sc_law_any_name.nd rfl (Or.inl rfl) (pe_op op_add_str (pe_call GP hr3 rfl T.g_law_pick T.F_law_pick.kp T.b_law_pick .nil pass0 (pa_cons (pv 0) (pa_cons pe_str pa_nil)))
          (pe_call GA hr rfl T.g_law_any_word T.F_law_any_word.kp T.b_law_any_word .nil pass0 (pa_cons (pv 0) (pa_cons pe_int (pa_cons pe_int pa_nil))))))
      (pss_cons (ps_if (pt_val (pv 1)) (pss_one (ps_set (i := 2) sc_law_any_name.nd rfl (Or.inl rfl)
          (pe_op op_add_str (pe_call GP hr3 rfl T.g_law_pick T.F_law_pick.kp T.b_law_pick .nil pass0 (pa_cons (pv 0) (pa_cons (pe_call0 GR hr1 rfl T.g_law_reserved T.F_law_reserved.kp T.b_law_reserved .nil pass0) pa_nil)))
            (pe_call GP hr3 rfl T.g_law_pick T.F_law_pick.kp T.b_law_pick .nil pass0 (pa_cons (pv 0) (pa_cons (pe_lst (pa_cons pe_str (pa_cons pe_str (pa_cons pe_str (pa_cons pe_str pa_nil))))) pa_nil)))))) pss_nil)
      (pss_one (ps_ret (pe_ifExp (pt_cmpR op_notIn_seq (pv 2) (pe_call0 GR hr1 rfl T.g_law_reserved T.F_law_reserved.kp T.b_law_reserved .nil pass0) (by rfl)) (pv 2)
        (pe_op op_add_str (pe_slice sl_str (pv 2) po_none (po_some pe_int)) pe_str)))))), ?_⟩
    -- near = take(state, 4) == 0
    refine ⟨_, rfl, d, g, c, m, _, rfl, D, by omega, by decide, by decide, fun r H1 r0 r1 D1 mv1 => ?_⟩
    refine ⟨rfl, ?_⟩
    -- word = pick(..) + any_word(state, 0, 7)
    refine ⟨_, rfl, d, g, c, _, D1, by omega, .inl ⟨letS, rfl, by decide +kernel, by decide +kernel, fun x H2 hx D2 mv2 => ?_⟩⟩
    refine ⟨_, rfl, d, g, c, _, 0, 7, rfl, D2, by omega, by omega, by omega, fun z H3 z0 z1 hz D3 mv3 => ?_⟩
    refine ⟨_, _, rfl, rfl, by rw [sizeLine_eq]; show 1 + z.length ≤ 16777216; omega, ?_⟩
    have m03 : Mv d g H H3 := (mv1.trans mv2).trans mv3
    have ez : tl ((⟨#[x]⟩ : Str) ++ z) = x :: tl z := by rw [tl_append]; rfl
    refine ⟨_, rfl, _, rfl, ite2 (fun _ => ?_) (fun _ => ?_)⟩
    · -- a name near to a reserved word
      refine ⟨_, rfl, rfl, fun p hp => ?_⟩
      obtain ⟨n1, n2, n3⟩ := dr_new D3 hp
      refine ⟨d, g, c, _, D3.same (same_new hp), by omega, .inr ⟨p, _, rfl, upd_same, n2, by decide +kernel, by decide +kernel, fun y H4 hy D4 mv4 => ?_⟩⟩
      obtain ⟨y, hy2, rfl⟩ := List.mem_map.mp hy
      refine ⟨_, rfl, (by show 4 ≤ sizeLine; decide), fun q hq => ?_⟩
      obtain ⟨n4, n5, n6⟩ := dr_new D4 hq
      refine ⟨d, g, c, _, D4.same (same_new hq), by omega, .inr ⟨q, sufS.map V.str, rfl, upd_same, n5, by decide +kernel, by decide +kernel, fun v H5 hv D5 mv5 => ?_⟩⟩
      obtain ⟨v, hv2, rfl⟩ := List.mem_map.mp hv
      have hN : isN (y ++ v) = true := near_ok y hy2 v hv2
      have hL := isN_len hN
      have ly := resv_len y hy2
      have lv := suf_len v hv2
      refine ⟨_, _, rfl, rfl, by rw [sizeLine_eq]; omega, ?_⟩
      have m05 : Mv d g H H5 := (((m03.trans (Mv.same (same_new hp))).trans mv4).trans (Mv.same (same_new hq))).trans mv5
      refine ⟨_, rfl, rfl, fun u hu => ?_⟩
      refine ⟨u, _, rfl, .inl (.inl (.inl upd_same)), rfl, flat_strs _, _, rfl, ?_⟩
      rw [show (if true = true then !inV (V.str (y ++ v)) (resv.map V.str) else inV (V.str (y ++ v)) (resv.map V.str)) = true by
        rw [if_pos rfl, inV_strs, decide_eq_false (isN_res hN)]; rfl]
      refine iteT ⟨_, rfl, ?_⟩
      exact k _ _ hN ((D5.same (same_new hu)).mono (by omega)) (m05.trans (Mv.same (same_new hu)))
    · refine ⟨_, rfl, rfl, fun u hu => ?_⟩
      refine ⟨u, _, rfl, .inl (.inl (.inl upd_same)), rfl, flat_strs _, _, rfl, ?_⟩
      have D4 := (D3.same (same_new (o := .lst (resv.map V.str)) hu)).mono (show m + 1 + 1 + 30 ≤ m + 40 by omega)
      have m04 := m03.trans (Mv.same (same_new (o := .lst (resv.map V.str)) hu))
      rw [show (if true = true then !inV (V.str ((⟨#[x]⟩ : Str) ++ z)) (resv.map V.str) else inV (V.str ((⟨#[x]⟩ : Str) ++ z)) (resv.map V.str)) = !decide ((⟨#[x]⟩ : Str) ++ z ∈ resv) by
        rw [if_pos rfl, inV_strs]]
      by_cases hin : (⟨#[x]⟩ : Str) ++ z ∈ resv
      · rw [decide_eq_true hin]
        refine iteF ?_
        have hl := resv_len _ hin
        refine ⟨_, rfl, _, rfl, _, rfl, by rw [sizeLine_eq]; omega, _, _, rfl, rfl, ?_, ?_⟩
        · have q := cutS_length ((⟨#[x]⟩ : Str) ++ z) none (some 7)
          rw [sizeLine_eq, show ("_" : Str).length = 1 by decide +kernel]
          omega
        · exact k _ _ (isN_cut ez hx hz) D4 m04
      · rw [decide_eq_false hin]
        refine iteT ⟨_, rfl, ?_⟩
        exact k _ _ (isN_of ez hx hz (by rw [← len_tl]; exact z1) hin) D4 m04
end
end Sn

/-! ## The class Names: __init__ -/
namespace Sn
open PySem PySem.Spec PyProof.Rows L2 TL
section
variable {P : Program} {w : World} {K : PySem.W.Frag} {mg : Str → Option Value} {base : Heap}
/-- a def f(a, *v) that raises nothing -/
theorem okStar {x ql : Str} {st : Stmt} {f : Addr} {fd : FuncData} {N : List Str} {p1 pv : Str} {k : Nat} {sp : Sp} (F : Fun K x ql st f fd) (S : FnScope N [p1, pv] (defScope st))
    (h0 : ∀ (kV dc pm : Value) (an : Option Addr) (cd ct : Value) (a : Value), bindArgs (PySem.W.fnOf x ql (defArgs st) (defBody st) (defScope st) .none kV dc pm an cd ct) ⟨[a], []⟩ = (newTuple [] >>= fun t => pure [(p1, a), (pv, t)]))
    (h1 : ∀ (kV dc pm : Value) (an : Option Addr) (cd ct : Value) (a r : Value) (rs : List Value), bindArgs (PySem.W.fnOf x ql (defArgs st) (defBody st) (defScope st) .none kV dc pm an cd ct) ⟨a :: r :: rs, []⟩ = (newTuple (r :: rs) >>= fun t => pure [(p1, a), (pv, t)]))
    (hb : ∀ (cd : Value) (A : Around) (fr : List Env) (s : Shared) (H : Hp) (xs : List V) (Q : VK) (E : XK),
      Room k (A.deeper (envOfC ql (defScope st) s.heap.objs.size f cd)) → sp xs H Q E →
      ∃ t, PSs (cxOf CX0 P w K mg base N ql (defScope st) f cd A fr s H E).nox (defBody st) t ∧
        t { nx := fun _ H' => Q .non H', rt := Q } (start N xs) H) :
    FnR P w K mg base CX0 (k + 1) f (fun vs H Q E => ∃ ws rest, vs = ws ++ rest ∧ ws.length = [p1].length ∧ rest.length ≤ sizeLine ∧ ∀ p, H p = none → sp (ws ++ [V.ref p]) (upd H p (.tup rest)) Q E) := by
  obtain ⟨oc, od, kV, dc, pm, an, cd, ct, sl, rfl, lk, hcd⟩ := F.ex
  refine StX.fn_star (ps := [p1]) (pv := pv) lk hcd S StX.cxUp_none (StX.bind_star1 (B := fun us => bindArgs _ ⟨us, []⟩) (fun a => h0 kV dc pm an cd ct a) fun a r rs => h1 kV dc pm an cd ct a r rs) ?_
  intro A fr s H xs Q E hr h
  obtain ⟨t, a, b⟩ := hb cd A fr s H xs Q E hr h
  exact ⟨t, a.nox, b⟩
/-- Names(*xs): self is new, its paths are those of xs, each once, rising -/
def spInit (C : Addr) : Sp := fun vs H Q _ => ∃ (a dx : Addr) (xs : List Str), vs = .ref a :: xs.map V.str ∧ H a = some (.ins C dx []) ∧ xs.length < 64 ∧ (∀ z ∈ xs, Pth z) ∧
  ∀ (t : Addr) (ys : List Str) (H1 : Hp), Same H H1 → H1 t = some (.tup (ys.map V.str)) → Ris ys → (∀ z, z ∈ ys ↔ z ∈ xs) → ys.length ≤ xs.length →
    Q .non (upd H1 a (.ins C dx [("paths", .ref t)]))
def spInitB (C : Addr) : Sp := fun vs H Q _ => ∃ (a dx p : Addr) (xs : List Str), vs = [.ref a, .ref p] ∧ H a = some (.ins C dx []) ∧ H p = some (.tup (xs.map V.str)) ∧ xs.length < 64 ∧ (∀ z ∈ xs, Pth z) ∧
  ∀ (t : Addr) (ys : List Str) (H1 : Hp), Same H H1 → H1 t = some (.tup (ys.map V.str)) → Ris ys → (∀ z, z ∈ ys ↔ z ∈ xs) → ys.length ≤ xs.length →
    Q .non (upd H1 a (.ins C dx [("paths", .ref t)]))
theorem ok_init (T : Txt K mg) : FnR P w K mg base CX0 4 T.f_Names_init (spInit T.C_Names) := by
  have GP : FnOk P w K mg base CX0 3 T.f_is_path T.fd_is_path ["value"] (spAsk K isP) := ok_path T
  have R : FnR P w K mg base CX0 4 T.f_Names_init (fun vs H Q E => ∃ ws rest, vs = ws ++ rest ∧ ws.length = (["self"] : List Str).length ∧ rest.length ≤ sizeLine ∧ ∀ p, H p = none →
      spInitB T.C_Names (ws ++ [V.ref p]) (upd H p (.tup rest)) Q E) := by
    refine okStar T.F_Names_init sc_Names_init (fun _ _ _ _ _ _ _ => rfl) (fun _ _ _ _ _ _ _ _ _ => rfl) fun cdv A outer s H vs Q E hr h => ?_
    obtain ⟨a, dx, p, xs, rfl, hA, hP, h64, hx, k⟩ := h
    refine ⟨_, pss_cons (ps_for PassesOwn.never rfl (pi_enumT (by rfl) T.z_enumerate (pa_cons (pv 1) pa_nil))
        (pg_tup rfl (pgs_cons (pg_name (i := 2) sc_Names_init.nd rfl (Or.inl rfl)) (pgs_cons (pg_name (i := 3) sc_Names_init.nd rfl (Or.inl rfl)) pgs_nil)))
        (pss_one (ps_if (pt_not (pt_val (pe_call GP hr rfl T.g_is_path T.F_is_path.kp T.b_is_path .nil pass0 (pa_cons (pv 3) pa_nil)))) (pss_one ps_never) pss_nil)))
      (pss_one (ps_fld (pv 0) (pe_callTy call_tuple_of (by rfl) T.z_tuple (by decide +kernel) (pa_cons (pe_callB cr_sortedS (by rfl) T.z_sorted (by decide +kernel) (pa_cons
        (pe_callTy (call_list_dK rfl) (by rfl) T.z_list (by decide +kernel) (pa_cons (pe_dc (own := [("path", 3)]) (g := gName 3) (by rfl) sc_Names_init.nd (pi_tup (pv 1))
          (blkOk_by (own := [("path", 3)]) (N := n_Names_init) (sc := defScope s_Names_init) (by decide +kernel))
          (fun _ _ _ _ _ => pg_name (i := 3) sc_Names_init.nd rfl (Or.inl rfl)) (fun _ _ _ _ _ => pts_nil) (fun _ _ _ _ _ => pv 3) (fun _ _ _ _ _ => pe_bl)) pa_nil)) pa_nil)) pa_nil)) rfl)), ?_⟩
    refine ⟨_, rfl, p, xs.map V.str, rfl, .inl (.inl hP), ?_⟩
    refine for_it (walk_enumT (K := K) (a := p) (xs := xs.map V.str)) (fun i σ H2 => ∃ v2 v3 : Option V, σ = [some (.ref a), some (.ref p), v2, v3] ∧ Same H H2) ⟨none, none, rfl, Same.refl H⟩
      (fun i σ H2 _ ⟨_, _, _, s2⟩ => .inl (.inl (s2 _ _ hP))) ?_ ?_
    · rintro i x σ H2 H3 hi ⟨v2, v3, rfl, s2⟩ ⟨Tp, y1, y2, rfl, hT, rfl, e1, e2⟩
      cases e1
      obtain ⟨z, hz, rfl⟩ := get_strs e2
      have hpz := hx z (List.mem_of_getElem? hz)
      refine ⟨Tp, _, rfl, .inl (.inl upd_same), rfl, _, _, rfl, _, _, rfl, rfl, ?_⟩
      refine ⟨_, rfl, _, rfl, .inl ⟨z, rfl, hpz.l⟩, fun H4 s4 => ⟨_, rfl, ?_⟩⟩
      rw [show ans isP (.str z) = true from hpz.p]
      exact iteF ⟨_, _, rfl, (s2.trans (same_new hT)).trans s4⟩
    · rintro σ H2 ⟨v2, v3, rfl, s2⟩
      refine ⟨_, rfl, p, rfl, ⟨_, .inl (.inl (s2 _ _ hP))⟩, fun D hD => ?_⟩
      refine dc_tup (K := K) (a := p) (xs := xs.map V.str) (fun i H3 => ∃ ks : List Str, Same H2 H3 ∧ H3 D = some (.dK (trues ks)) ∧ ks.Nodup ∧ (∀ z, z ∈ ks ↔ z ∈ xs.take i) ∧ ks.length ≤ i)
        ⟨[], same_new hD, by rw [upd_same]; rfl, .nil, by simp, Nat.le_refl _⟩ (fun i H3 _ ⟨_, s3, _⟩ => .inl (.inl (s3 _ _ (s2 _ _ hP)))) ?_ ?_
      · rintro i x H3 hx3 ⟨ks, s3, hD3, nd, mem, le⟩
        obtain ⟨z, hz, rfl⟩ := get_strs hx3
        have hi : i < xs.length := (List.getElem?_eq_some_iff.mp hz).1
        refine ⟨rfl, ?_⟩
        refine ⟨_, rfl, trues ks, Sum.inr z, rfl, hD3, ?_, ?_⟩
        · unfold trues
          rw [List.length_map, sizeLine_eq]; omega
        · refine ⟨if z ∈ ks then ks else ks ++ [z], same_in s3 hD, by rw [upd_same, put_true], ?_, fun y => ?_, ?_⟩
          · split
            · exact nd
            · rename_i hn
              exact List.nodup_append.mpr ⟨nd, by simp, fun u hu v hv => by rw [List.mem_singleton.mp hv]; exact fun e => hn (e ▸ hu)⟩
          · rw [takes hz, List.mem_append, List.mem_singleton, ← mem]
            split
            · rename_i hm
              exact ⟨.inl, fun q => q.elim id fun e => e ▸ hm⟩
            · rw [List.mem_append, List.mem_singleton]
          · split
            · omega
            · rw [List.length_append]; exact Nat.succ_le_succ le
      · rintro H3 ⟨ks, s3, hD3, nd, mem, le⟩
        rw [List.length_map] at mem le
        rw [List.take_length] at mem
        refine ⟨D, trues ks, rfl, hD3, fun q hq => ?_⟩
        have eq1 : (trues ks).map (fun kv => kV kv.1) = ks.map V.str := by
          unfold trues
          rw [List.map_map]; rfl
        rw [eq1]
        refine ⟨q, ks, rfl, .inl (.inl upd_same), by omega, fun ys r hys hso hr2 => ?_⟩
        refine ⟨r, ys.map V.str, rfl, .inl ⟨.inl (.inl upd_same), fun l hl => ?_⟩⟩
        have s4 := ((s2.trans s3).trans (same_new (o := .lst (ks.map V.str)) hq)).trans (same_new (o := .lst (ys.map V.str)) hr2)
        have s5 := s4.trans (same_new (o := .tup (ys.map V.str)) hl)
        refine ⟨_, rfl, a, T.C_Names, dx, [], rfl, s5 _ _ hA, T.cl_Names, T.at_Names_paths, by decide, ?_⟩
        refine k l ys _ s5 upd_same (ris_of ys hso (hys.nodup_iff.mpr nd)) (fun z => ?_) ?_
        · rw [hys.mem_iff, mem]
        · rw [hys.length_eq]; exact le
  intro A outer s H us vs Q E hr e0 r h
  obtain ⟨a, dx, xs, rfl, hA, h64, hx, k⟩ := h
  refine R A outer s H us _ Q E hr e0 r ⟨[.ref a], xs.map V.str, rfl, rfl, ?_, fun p hp => ?_⟩
  · rw [List.length_map, sizeLine_eq]; omega
  · have s1 : Same H (upd H p (.tup (xs.map V.str))) := same_new hp
    exact ⟨a, dx, p, xs, rfl, s1 _ _ hA, upd_same, h64, hx, fun t ys H1 sm => k t ys H1 (s1.trans sm)⟩
end
end Sn

/-! ## The class Names: its other methods -/
namespace Sn
open PySem PySem.Spec PyProof.Rows L2 TL
/-- a set of paths stands at a: its paths are ys -/
structure Nm (C : Addr) (H : Hp) (a : Addr) (ys : List Str) : Prop where
  at_ : ∃ dx t, H a = some (.ins C dx [("paths", .ref t)]) ∧ H t = some (.tup (ys.map V.str))
  ris : Ris ys
  pth : ∀ z ∈ ys, Pth z
theorem Nm.same {C : Addr} {H H' : Hp} {a : Addr} {ys : List Str} (h : Nm C H a ys) (s : Same H H') : Nm C H' a ys := by
  obtain ⟨⟨dx, t, h1, h2⟩, r, p⟩ := h
  exact ⟨⟨dx, t, s _ _ h1, s _ _ h2⟩, r, p⟩
theorem Nm.asc {C : Addr} {H : Hp} {a : Addr} {ys : List Str} (h : Nm C H a ys) : ∀ z ∈ ys, Asc z := fun z hz => (h.pth z hz).a
theorem made {C : Addr} {H : Hp} {l : List Str} {Q : VK} {E : XK} (hl : l.length < 64) (hp : ∀ z ∈ l, Pth z)
    (k : ∀ (x : Addr) (ys : List Str) (H2 : Hp), Nm C H2 x ys → Same H H2 → (∀ z, z ∈ ys ↔ z ∈ l) → ys.length ≤ l.length → Q (.ref x) H2) :
    ∀ x dx, H x = none → H dx = none → dx ≠ x → spInit C (.ref x :: l.map V.str) (upd (upd H dx (.own x)) x (.ins C dx [])) (fun v H2 => v = .non ∧ Q (.ref x) H2) E := by
  intro x dx hx hd ne
  refine ⟨x, dx, l, rfl, upd_same, hl, hp, fun t ys H1 s ht r m le => ⟨rfl, ?_⟩⟩
  have ex : H1 x = some (.ins C dx []) := s _ _ upd_same
  have tx : t ≠ x := fun e => by rw [e, ex] at ht; cases ht
  refine k x ys _ ⟨⟨dx, t, upd_same, by rw [upd_ne tx]; exact ht⟩, r, fun z hz => hp z ((m z).mp hz)⟩ (fun b u e => ?_) m le
  have b1 : b ≠ x := ne_of_none e hx
  have b2 : b ≠ dx := ne_of_none e hd
  rw [upd_ne b1]
  refine s _ _ ?_
  rw [upd_ne b1, upd_ne b2]
  exact e
theorem fl_take {l : List Str} {i : Nat} {z : Str} (p : Str → Bool) (h : l[i]? = some z) : (l.take (i + 1)).filter p = (l.take i).filter p ++ if p z = true then [z] else [] := by
  rw [takes h, List.filter_append]
  congr 1
  by_cases e : p z = true
  · rw [if_pos e, List.filter_cons_of_pos e]; rfl
  · rw [if_neg e, List.filter_cons_of_neg e]; rfl
theorem fl_len {l : List Str} (i : Nat) (p : Str → Bool) : ((l.take i).filter p).length ≤ l.length :=
  Nat.le_trans (List.length_filter_le _ _) (by rw [List.length_take]; omega)
section
variable {P : Program} {w : World} {K : PySem.W.Frag} {mg : Str → Option Value} {base : Heap}
theorem ty_names (T : Txt K mg) {H : Hp} {a : Addr} {ys : List Str} (h : Nm T.C_Names H a ys) : TyX K H (.ref a) (.ref T.C_Names) := by
  obtain ⟨⟨dx, t, h1, h2⟩, r, p⟩ := h
  exact .base (.ins h1 T.cl_Names T.ih_Names T.in_Names T.it_Names T.im_Names)
theorem kit_self (C : Addr) : PySem.W.kitOne K (.ref C) (.ref C) = some true := by
  unfold PySem.W.kitOne
  exact if_pos (by simp)
def spLenN (C : Addr) : Sp := fun vs H Q _ => ∃ (a : Addr) (ys : List Str), vs = [.ref a] ∧ Nm C H a ys ∧ ys.length ≤ 1000 ∧ Q (.int ys.length) H
theorem ok_lenN (T : Txt K mg) : FnOk P w K mg base CX0 1 T.f_Names_len T.fd_Names_len ["self"] (spLenN T.C_Names) := by
  refine T.F_Names_len.ok sc_Names_len (fun vs H Q E h => ?_) (fun cdv A outer s H vs Q E hr h => ?_)
  · obtain ⟨a, ys, rfl, _⟩ := h
    rfl
  · obtain ⟨a, ys, rfl, N, hl, k⟩ := h
    refine ⟨_, (pss_one (ps_ret (pe_callB call_len (by rfl) T.z_len (by decide +kernel) (pa_cons (pe_fldK (K := K) (pv 0)) pa_nil)))), ?_⟩
    obtain ⟨dx, t, h1, ht⟩ := N.at_
    exact ⟨_, rfl, a, _, dx, _, _, rfl, h1, T.cl_Names, T.at_Names_paths, rfl, _, ys.length, rfl, .inr ⟨_, .inl (.inl ht), (by rw [List.length_map])⟩, k⟩
/-- value in names -/
def spHas (K : PySem.W.Frag) (C : Addr) : Sp := fun vs H Q _ => ∃ (a : Addr) (ys : List Str) (v : V), vs = [.ref a, v] ∧ Nm C H a ys ∧ Arg K H v ∧ Q (.bl (ans (fun z => decide (z ∈ ys)) v)) H
theorem ok_has (T : Txt K mg) : FnOk P w K mg base CX0 1 T.f_Names_contains T.fd_Names_contains ["self", "value"] (spHas K T.C_Names) := by
  refine T.F_Names_contains.ok sc_Names_contains (fun vs H Q E h => ?_) (fun cdv A outer s H vs Q E hr h => ?_)
  · obtain ⟨a, ys, v, rfl, _⟩ := h
    rfl
  · obtain ⟨a, ys, v, rfl, N, hv, k⟩ := h
    refine ⟨_, (pss_one (ps_ret (pe_and (pe_callB call_isi (by rfl) T.z_isinstance (by decide +kernel) (pa_cons (pv 1) (pa_cons (pe_bltn (v := .ty "str") (by rfl) T.z_str (by decide +kernel) rfl) pa_nil))) (pe_one (pe_cmpR (op_in_seqK (K := K)) (pv 1) (pe_fldK (K := K) (pv 0)) (by rfl)))))), ?_⟩
    rcases hv with ⟨z, rfl, hz⟩ | hn
    · refine ⟨_, rfl, _, .ty "str", .type "str", .type "str", true, rfl, .ty "str", .base (.str z), kit_ty (by decide +kernel), true, rfl, iteT ?_⟩
      obtain ⟨dx, t, h1, ht⟩ := N.at_
      refine ⟨_, rfl, _, rfl, a, _, dx, _, _, rfl, h1, T.cl_Names, T.at_Names_paths, rfl, t, _, rfl, .inr (.inl (.inl ht)), rfl, flat_strs _, ?_⟩
      rw [inV_strs]
      exact k
    · obtain ⟨t, ty, hk⟩ := id hn
      refine ⟨_, rfl, _, .ty "str", t, .type "str", false, rfl, .ty "str", ty, hk, false, rfl, iteF ?_⟩
      rw [hn.ans] at k
      exact k
def spEqN (C : Addr) : Sp := fun vs H Q _ => ∃ (a b : Addr) (ys zs : List Str), vs = [.ref a, .ref b] ∧ Nm C H a ys ∧ Nm C H b zs ∧ Q (.bl (decide (ys = zs))) H
theorem ok_eqN (T : Txt K mg) : FnOk P w K mg base CX0 1 T.f_Names_eq T.fd_Names_eq ["self", "other"] (spEqN T.C_Names) := by
  refine T.F_Names_eq.ok sc_Names_eq (fun vs H Q E h => ?_) (fun cdv A outer s H vs Q E hr h => ?_)
  · obtain ⟨a, b, ys, zs, rfl, _⟩ := h
    rfl
  · obtain ⟨a, b, ys, zs, rfl, N, M, k⟩ := h
    refine ⟨_, (pss_one (ps_ret (pe_and (pe_callB call_isi (by rfl) T.z_isinstance (by decide +kernel) (pa_cons (pv 1) (pa_cons (pe_glob (v := .ref T.C_Names) rfl T.gC_Names rfl) pa_nil))) (pe_one (pe_cmpR (op_eqDK (K := K) hr.units) (pe_fldK (K := K) (pv 0)) (pe_fldK (K := K) (pv 1)) (nomark _)))))), ?_⟩
    refine ⟨_, rfl, _, .ref T.C_Names, .ref T.C_Names, .ref T.C_Names, true, rfl, .own _, ty_names T M, kit_self _, true, rfl, iteT ?_⟩
    obtain ⟨dx, t, h1, ht⟩ := N.at_
    obtain ⟨ex, u, g1, hu⟩ := M.at_
    refine ⟨_, rfl, a, _, dx, _, _, rfl, h1, T.cl_Names, T.at_Names_paths, rfl, _, rfl, b, _, ex, _, _, rfl, g1, T.cl_Names, T.at_Names_paths, rfl, ?_⟩
    refine ⟨_, _, .tup (.inl (.inl ht)) (dp_strs ys), .tup (.inl (.inl hu)) (dp_strs zs), shaped_tstrs _ N.asc, shaped_tstrs _ M.asc, ?_⟩
    rw [eqv_tups]
    exact k
/-- two sets joined: who is in the new one -/
def spBin (C : Addr) (W : List Str → List Str → Str → Prop) : Sp := fun vs H Q _ => ∃ (a b : Addr) (ys zs : List Str), vs = [.ref a, .ref b] ∧ Nm C H a ys ∧ Nm C H b zs ∧ ys.length + zs.length < 64 ∧
  ∀ (x : Addr) (us : List Str) (H2 : Hp), Nm C H2 x us → Same H H2 → (∀ z, z ∈ us ↔ W ys zs z) → us.length ≤ ys.length + zs.length → Q (.ref x) H2
def wOr (ys zs : List Str) (z : Str) : Prop := z ∈ ys ∨ z ∈ zs
def wAnd (ys zs : List Str) (z : Str) : Prop := z ∈ ys ∧ z ∈ zs
def wSub (ys zs : List Str) (z : Str) : Prop := z ∈ ys ∧ z ∉ zs
theorem ok_or (T : Txt K mg) : FnOk P w K mg base CX0 6 T.f_Names_or T.fd_Names_or ["self", "other"] (spBin T.C_Names wOr) := by
  refine T.F_Names_or.ok sc_Names_or (fun vs H Q E h => ?_) (fun cdv A outer s H vs Q E hr h => ?_)
  · obtain ⟨a, b, ys, zs, rfl, _⟩ := h
    rfl
  · obtain ⟨a, b, ys, zs, rfl, N, M, hl, k⟩ := h
    refine ⟨_, (pss_cons (ps_if (pt_not (pt_val (pe_callB call_isi (by rfl) T.z_isinstance (by decide +kernel) (pa_cons (pv 1) (pa_cons (pe_glob (v := .ref T.C_Names) rfl T.gC_Names rfl) pa_nil)))))
        (pss_one ps_never)
        pss_nil)
      (pss_cons (ps_set (i := 2) sc_Names_or.nd rfl (Or.inl rfl) (pe_tup (StX.pa_star (pe_fldK (K := K) (pv 0)) (StX.pa_star (pe_fldK (K := K) (pv 1)) pa_nil))))
      (pss_one (ps_ret (pe_makeS T.mk_Names (ok_init T) (hr.mono (by decide)) (by rfl) T.gC_Names pass0 (pv 2)))))), ?_⟩
    refine ⟨_, rfl, _, .ref T.C_Names, .ref T.C_Names, .ref T.C_Names, true, rfl, .own _, ty_names T M, kit_self _, true, rfl, iteF ?_⟩
    obtain ⟨dx, t, h1, ht⟩ := N.at_
    obtain ⟨ex, u, g1, hu⟩ := M.at_
    refine ⟨_, rfl, a, _, dx, _, _, rfl, h1, T.cl_Names, T.at_Names_paths, rfl, t, _, rfl, .inl (.inl (.inl ht)), _, rfl, b, _, ex, _, _, rfl, g1, T.cl_Names, T.at_Names_paths, rfl, u, _, rfl, .inl (.inl (.inl hu)), ?_⟩
    have e0 : ys.map V.str ++ (zs.map V.str ++ []) = (ys ++ zs).map V.str := by rw [List.append_nil, ← List.map_append]
    show (ys.map V.str ++ (zs.map V.str ++ [])).length ≤ sizeLine ∧ ∀ p, H p = none → _
    rw [e0]
    refine ⟨by rw [List.length_map, List.length_append, sizeLine_eq]; omega, fun p hp => ?_⟩
    refine ⟨_, rfl, p, _, rfl, .inl (.inl (.inl upd_same)), ?_⟩
    refine made (by rw [List.length_append]; exact hl) (fun z hz => (List.mem_append.mp hz).elim (N.pth z) (M.pth z)) fun x us H2 X s2 m le => ?_
    exact k x us H2 X ((same_new hp).trans s2) (fun z => by rw [m, List.mem_append]; exact Iff.rfl) (by rw [List.length_append] at le; exact le)
theorem ok_and (T : Txt K mg) : FnOk P w K mg base CX0 6 T.f_Names_and T.fd_Names_and ["self", "other"] (spBin T.C_Names wAnd) := by
  refine T.F_Names_and.ok sc_Names_and (fun vs H Q E h => ?_) (fun cdv A outer s H vs Q E hr h => ?_)
  · obtain ⟨a, b, ys, zs, rfl, _⟩ := h
    rfl
  · obtain ⟨a, b, ys, zs, rfl, N, M, hl, k⟩ := h
    refine ⟨_, (pss_cons (ps_if (pt_not (pt_val (pe_callB call_isi (by rfl) T.z_isinstance (by decide +kernel) (pa_cons (pv 1) (pa_cons (pe_glob (v := .ref T.C_Names) rfl T.gC_Names rfl) pa_nil)))))
        (pss_one ps_never)
        pss_nil)
      (pss_cons (ps_setLc (i := 2) (own := [("path", 3)]) (g := gName 3) rfl sc_Names_and.nd rfl rfl (sw_true rfl rfl rfl (by decide +kernel)) (pi_tup (pe_fldK (K := K) (pv 0))) (blkOk_by (own := [("path", 3)]) (N := n_Names_and) (sc := defScope s_Names_and) (by decide +kernel)) (fun _ _ _ _ _ => (pg_name (i := 3) sc_Names_and.nd rfl (Or.inl rfl))) (fun _ _ _ _ _ => (pts_one (pt_cmpR (op_in_seqK (K := K)) (pv 3) (pe_fldK (K := K) (pv 1)) (by rfl)))) (fun _ _ _ _ _ => (pv 3)))
      (pss_one (ps_ret (pe_makeS T.mk_Names (ok_init T) (hr.mono (by decide)) (by rfl) T.gC_Names pass0 (pv 2)))))), ?_⟩
    refine ⟨_, rfl, _, .ref T.C_Names, .ref T.C_Names, .ref T.C_Names, true, rfl, .own _, ty_names T M, kit_self _, true, rfl, iteF ?_⟩
    obtain ⟨dx, t, h1, ht⟩ := N.at_
    obtain ⟨ex, u, g1, hu⟩ := M.at_
    refine ⟨_, rfl, a, _, dx, _, _, rfl, h1, T.cl_Names, T.at_Names_paths, rfl, t, rfl, ⟨_, .inl (.inl ht)⟩, fun D hD => ?_⟩
    refine lc_tup (K := K) (a := t) (xs := ys.map V.str) (fun i H2 => H2 = upd H D (.lst (((ys.take i).filter fun z => decide (z ∈ zs)).map V.str)))
      rfl (fun i H2 _ e => by rw [e]; exact .inl (.inl (same_new hD _ _ ht))) ?_ ?_
    · rintro i x H2 hx rfl
      obtain ⟨z, hz, rfl⟩ := get_strs hx
      refine ⟨rfl, ?_⟩
      refine ⟨_, rfl, _, rfl, b, _, ex, _, _, rfl, same_new hD _ _ g1, T.cl_Names, T.at_Names_paths, rfl, u, _, rfl, .inr (.inl (.inl (same_new hD _ _ hu))), rfl, flat_strs _, ?_⟩
      rw [inV_strs]
      refine ⟨_, rfl, ite2 (fun e => ?_) fun e => ?_⟩
      · refine ⟨_, rfl, _, upd_same, small1000 (by rw [List.length_map]; have := fl_len (l := ys) i (fun z => decide (z ∈ zs)); omega), ?_⟩
        rw [upd_upd, fl_take _ hz, if_pos (show decide (z ∈ zs) = true from e), List.map_append]; rfl
      · show upd H D _ = _
        rw [fl_take _ hz, if_neg (show ¬ decide (z ∈ zs) = true from e), List.append_nil]
    · rintro H2 rfl
      rw [List.length_map, List.take_length]
      refine ⟨_, rfl, D, _, rfl, .inr (.inl (.inl upd_same)), ?_⟩
      have h1 := List.length_filter_le (fun z => decide (z ∈ zs)) ys
      refine made (by omega) (fun z hz => N.pth z (List.mem_filter.mp hz).1) fun x us H2 X s2 m le => ?_
      exact k x us H2 X ((same_new hD).trans s2) (fun z => by rw [m, List.mem_filter, decide_eq_true_eq]; exact Iff.rfl) (by omega)
theorem ok_sub (T : Txt K mg) : FnOk P w K mg base CX0 6 T.f_Names_sub T.fd_Names_sub ["self", "other"] (spBin T.C_Names wSub) := by
  refine T.F_Names_sub.ok sc_Names_sub (fun vs H Q E h => ?_) (fun cdv A outer s H vs Q E hr h => ?_)
  · obtain ⟨a, b, ys, zs, rfl, _⟩ := h
    rfl
  · obtain ⟨a, b, ys, zs, rfl, N, M, hl, k⟩ := h
    refine ⟨_, (pss_cons (ps_if (pt_not (pt_val (pe_callB call_isi (by rfl) T.z_isinstance (by decide +kernel) (pa_cons (pv 1) (pa_cons (pe_glob (v := .ref T.C_Names) rfl T.gC_Names rfl) pa_nil)))))
        (pss_one ps_never)
        pss_nil)
      (pss_cons (ps_setLc (i := 2) (own := [("path", 3)]) (g := gName 3) rfl sc_Names_sub.nd rfl rfl (sw_true rfl rfl rfl (by decide +kernel)) (pi_tup (pe_fldK (K := K) (pv 0))) (blkOk_by (own := [("path", 3)]) (N := n_Names_sub) (sc := defScope s_Names_sub) (by decide +kernel)) (fun _ _ _ _ _ => (pg_name (i := 3) sc_Names_sub.nd rfl (Or.inl rfl))) (fun _ _ _ _ _ => (pts_one (pt_cmpR (op_notIn_seqK (K := K)) (pv 3) (pe_fldK (K := K) (pv 1)) (by rfl)))) (fun _ _ _ _ _ => (pv 3)))
      (pss_one (ps_ret (pe_makeS T.mk_Names (ok_init T) (hr.mono (by decide)) (by rfl) T.gC_Names pass0 (pv 2)))))), ?_⟩
    refine ⟨_, rfl, _, .ref T.C_Names, .ref T.C_Names, .ref T.C_Names, true, rfl, .own _, ty_names T M, kit_self _, true, rfl, iteF ?_⟩
    obtain ⟨dx, t, h1, ht⟩ := N.at_
    obtain ⟨ex, u, g1, hu⟩ := M.at_
    refine ⟨_, rfl, a, _, dx, _, _, rfl, h1, T.cl_Names, T.at_Names_paths, rfl, t, rfl, ⟨_, .inl (.inl ht)⟩, fun D hD => ?_⟩
    refine lc_tup (K := K) (a := t) (xs := ys.map V.str) (fun i H2 => H2 = upd H D (.lst (((ys.take i).filter fun z => !decide (z ∈ zs)).map V.str)))
      rfl (fun i H2 _ e => by rw [e]; exact .inl (.inl (same_new hD _ _ ht))) ?_ ?_
    · rintro i x H2 hx rfl
      obtain ⟨z, hz, rfl⟩ := get_strs hx
      refine ⟨rfl, ?_⟩
      refine ⟨_, rfl, _, rfl, b, _, ex, _, _, rfl, same_new hD _ _ g1, T.cl_Names, T.at_Names_paths, rfl, u, _, rfl, .inr (.inl (.inl (same_new hD _ _ hu))), rfl, flat_strs _, ?_⟩
      rw [inV_strs]
      refine ⟨_, rfl, ite2 (fun e => ?_) fun e => ?_⟩
      · refine ⟨_, rfl, _, upd_same, small1000 (by rw [List.length_map]; have := fl_len (l := ys) i (fun z => !decide (z ∈ zs)); omega), ?_⟩
        rw [upd_upd, fl_take _ hz, if_pos (show (!decide (z ∈ zs)) = true from e), List.map_append]; rfl
      · show upd H D _ = _
        rw [fl_take _ hz, if_neg (show ¬ (!decide (z ∈ zs)) = true from e), List.append_nil]
    · rintro H2 rfl
      rw [List.length_map, List.take_length]
      refine ⟨_, rfl, D, _, rfl, .inr (.inl (.inl upd_same)), ?_⟩
      have h1 := List.length_filter_le (fun z => !decide (z ∈ zs)) ys
      refine made (by omega) (fun z hz => N.pth z (List.mem_filter.mp hz).1) fun x us H2 X s2 m le => ?_
      exact k x us H2 X ((same_new hD).trans s2) (fun z => by rw [m, List.mem_filter, Bool.not_eq_true', decide_eq_false_iff_not]; exact Iff.rfl) (by omega)
def spWithin (C : Addr) : Sp := fun vs H Q _ => ∃ (a b : Addr) (ys zs : List Str), vs = [.ref a, .ref b] ∧ Nm C H a ys ∧ Nm C H b zs ∧ ys.length < 64 ∧ ∀ H', Same H H' → Q (.bl (decide (∀ z ∈ ys, z ∈ zs))) H'
theorem ok_within (T : Txt K mg) : FnOk P w K mg base CX0 1 T.f_Names_within T.fd_Names_within ["self", "other"] (spWithin T.C_Names) := by
  refine T.F_Names_within.ok sc_Names_within (fun vs H Q E h => ?_) (fun cdv A outer s H vs Q E hr h => ?_)
  · obtain ⟨a, b, ys, zs, rfl, _⟩ := h
    rfl
  · obtain ⟨a, b, ys, zs, rfl, N, M, hl, k⟩ := h
    refine ⟨_, (pss_one (ps_ret (pe_callB (cr_all rfl) (by rfl) T.z_all (by decide +kernel) (pa_cons (pe_lc (own := [("path", 2)]) (g := gName 2) (by rfl) sc_Names_within.nd (pi_tup (pe_fldK (K := K) (pv 0))) (blkOk_by (own := [("path", 2)]) (N := n_Names_within) (sc := defScope s_Names_within) (by decide +kernel)) (fun _ _ _ _ _ => (pg_name (i := 2) sc_Names_within.nd rfl (Or.inl rfl))) (fun _ _ _ _ _ => pts_nil) (fun _ _ _ _ _ => (pe_cmpR (op_in_seqK (K := K)) (pv 2) (pe_fldK (K := K) (pv 1)) (by rfl)))) pa_nil)))), ?_⟩
    obtain ⟨dx, t, h1, ht⟩ := N.at_
    obtain ⟨ex, u, g1, hu⟩ := M.at_
    refine ⟨_, rfl, a, _, dx, _, _, rfl, h1, T.cl_Names, T.at_Names_paths, rfl, t, rfl, ⟨_, .inl (.inl ht)⟩, fun D hD => ?_⟩
    refine lc_tup (K := K) (a := t) (xs := ys.map V.str) (fun i H2 => H2 = upd H D (.lst (((ys.take i).map fun z => decide (z ∈ zs)).map V.bl)))
      rfl (fun i H2 _ e => by rw [e]; exact .inl (.inl (same_new hD _ _ ht))) ?_ ?_
    · rintro i x H2 hx rfl
      obtain ⟨z, hz, rfl⟩ := get_strs hx
      refine ⟨rfl, ?_⟩
      refine ⟨_, rfl, _, rfl, b, _, ex, _, _, rfl, same_new hD _ _ g1, T.cl_Names, T.at_Names_paths, rfl, u, _, rfl, .inr (.inl (.inl (same_new hD _ _ hu))), rfl, flat_strs _, ?_⟩
      rw [inV_strs]
      refine ⟨_, upd_same, small1000 (by rw [List.length_map, List.length_map, List.length_take]; omega), ?_⟩
      rw [upd_upd, takes hz, List.map_append, List.map_append]; rfl
    · rintro H2 rfl
      rw [List.length_map, List.take_length]
      refine ⟨D, ys.map fun z => decide (z ∈ zs), rfl, .inl (.inl upd_same), ?_⟩
      have q := k _ (same_new (o := .lst ((ys.map fun z => decide (z ∈ zs)).map V.bl)) hD)
      have e : (ys.map fun z => decide (z ∈ zs)).all id = decide (∀ z ∈ ys, z ∈ zs) := by
        rw [List.all_map, Bool.eq_iff_iff, List.all_eq_true, decide_eq_true_eq]
        simp
      show Q (.bl _) _
      rw [e]
      exact q
/-- several sets, gathered -/
def spGath (C : Addr) : Sp := fun vs H Q _ => ∃ as : List (Addr × List Str), vs = .ref C :: as.map (fun p => V.ref p.1) ∧ as.length ≤ 1000 ∧ (∀ p ∈ as, Nm C H p.1 p.2) ∧ (as.flatMap (·.2)).length < 64 ∧
  ∀ (x : Addr) (us : List Str) (H2 : Hp), Nm C H2 x us → Same H H2 → (∀ z, z ∈ us ↔ z ∈ as.flatMap (·.2)) → us.length ≤ (as.flatMap (·.2)).length → Q (.ref x) H2
def spGathB (C : Addr) : Sp := fun vs H Q _ => ∃ (p : Addr) (as : List (Addr × List Str)), vs = [.ref C, .ref p] ∧ H p = some (.tup (as.map (fun p => V.ref p.1))) ∧ (∀ p ∈ as, Nm C H p.1 p.2) ∧ (as.flatMap (·.2)).length < 64 ∧
  ∀ (x : Addr) (us : List Str) (H2 : Hp), Nm C H2 x us → Same H H2 → (∀ z, z ∈ us ↔ z ∈ as.flatMap (·.2)) → us.length ≤ (as.flatMap (·.2)).length → Q (.ref x) H2
theorem ok_gathered (T : Txt K mg) : FnR P w K mg base CX0 6 T.f_Names_gathered (spGath T.C_Names) := by
  have R : FnR P w K mg base CX0 6 T.f_Names_gathered (fun vs H Q E => ∃ ws rest, vs = ws ++ rest ∧ ws.length = (["cls"] : List Str).length ∧ rest.length ≤ sizeLine ∧ ∀ p, H p = none →
      spGathB T.C_Names (ws ++ [V.ref p]) (upd H p (.tup rest)) Q E) := by
    refine okStar T.F_Names_gathered sc_Names_gathered (fun _ _ _ _ _ _ _ => rfl) (fun _ _ _ _ _ _ _ _ _ => rfl) fun cdv A outer s H vs Q E hr h => ?_
    obtain ⟨p, as, rfl, hP, hN, hl, k⟩ := h
    refine ⟨_, (pss_cons (ps_set (i := 2) sc_Names_gathered.nd rfl (Or.inl rfl) (pe_lst pa_nil))
      (pss_cons (ps_for PassesOwn.never rfl (pi_tup (pv 1)) (pg_name (i := 3) sc_Names_gathered.nd rfl (Or.inl rfl))
        (pss_one (ps_expr (pe_bm PySem.F.plainAttrs_list PySem.F.slot_list_extend PySem.F.type_list_extend mt_extend (pv 2) (pa_cons (pe_callTy call_list_of (by rfl) T.z_list (by decide +kernel) (pa_cons (pe_fldK (K := K) (pv 3)) pa_nil)) pa_nil)))))
      (pss_one (ps_ret (pe_clsS (i := 0) T.mk_Names (ok_init T) (hr.mono (by decide)) rfl (Or.inl rfl) pass0 (pv 2)))))), ?_⟩
    refine ⟨(by show 0 ≤ sizeLine; decide), fun L hL => ?_⟩
    refine ⟨_, rfl, p, rfl, ⟨_, .inl (.inl (same_new hL _ _ hP))⟩, ?_⟩
    refine for_tup (K := K) (a := p) (xs := as.map fun p => V.ref p.1) (fun i σ H2 => ∃ v3 : Option V, σ = [some (.ref T.C_Names), some (.ref p), some (.ref L), v3] ∧ Same H H2 ∧ H2 L = some (.lst (((as.take i).flatMap (·.2)).map V.str)))
      ⟨none, rfl, same_new hL, upd_same⟩ (fun i σ H2 _ ⟨_, _, s2, _⟩ => .inl (.inl (s2 _ _ hP))) ?_ ?_
    · rintro i x σ H2 hx ⟨v3, rfl, s2, hL2⟩
      obtain ⟨q, hq, rfl⟩ : ∃ q, as[i]? = some q ∧ x = V.ref q.1 := by
        rw [List.getElem?_map] at hx
        cases e : as[i]? with
        | none => rw [e] at hx; cases hx
        | some y => rw [e] at hx; exact ⟨y, rfl, (Option.some.inj hx).symm⟩
      have N := (hN q (List.mem_of_getElem? hq)).same s2
      obtain ⟨dx, t, h1, ht⟩ := N.at_
      have e1 : (as.take (i + 1)).flatMap (·.2) = (as.take i).flatMap (·.2) ++ q.2 := by
        rw [takes hq, List.flatMap_append]; simp
      have le1 : ((as.take (i + 1)).flatMap (·.2)).length ≤ (as.flatMap (·.2)).length := by
        have h := congrArg (fun l : List (Addr × List Str) => (l.flatMap (·.2)).length) (List.take_append_drop (i + 1) as)
        simp only [List.flatMap_append, List.length_append] at h
        omega
      rw [e1, List.length_append] at le1
      refine ⟨_, rfl, .inl ⟨rfl, _, .inl (.inl hL2)⟩, _, rfl, q.1, _, dx, _, _, rfl, h1, T.cl_Names, T.at_Names_paths, rfl, t, _, rfl, .inr (.inl (.inl ht)), fun M hM => ?_⟩
      refine ⟨L, M, _, _, rfl, rfl, same_new hM _ _ hL2, upd_same, ?_, ?_⟩
      · rw [List.length_map, List.length_map, sizeLine_eq]; omega
      · refine ⟨_, rfl, same_in (s2.trans (same_new hM)) hL, ?_⟩
        rw [upd_same, e1, List.map_append]
    · rintro σ H2 ⟨v3, rfl, s2, hL2⟩
      rw [List.length_map, List.take_length] at hL2
      refine ⟨rfl, _, rfl, L, _, rfl, .inr (.inl (.inl hL2)), ?_⟩
      refine made hl (fun z hz => ?_) fun x us H3 X s3 m le => k x us H3 X (s2.trans s3) m le
      obtain ⟨q, hq, hz⟩ := List.mem_flatMap.mp hz
      exact (hN q hq).pth z hz
  intro A outer s H us vs Q E hr e0 r h
  obtain ⟨as, rfl, hz, hN, hl, k⟩ := h
  refine R A outer s H us _ Q E hr e0 r ⟨[.ref T.C_Names], as.map (fun p => V.ref p.1), rfl, rfl, ?_, fun p hp => ?_⟩
  · rw [List.length_map, sizeLine_eq]; omega
  · have s1 : Same H (upd H p (.tup (as.map (fun p => V.ref p.1)))) := same_new hp
    exact ⟨p, as, rfl, upd_same, fun q hq => (hN q hq).same s1, hl, fun x us H2 X sm => k x us H2 X (s1.trans sm)⟩
end
end Sn

/-! ## law_k04: what it draws -/
namespace Sn
open PySem PySem.Spec PyProof.Rows L2 TL
theorem Dr.upd {H : Hp} {d g c L : Addr} {m : Nat} {o : HO} (D : Dr H d g c m) (h : L ≠ d ∧ L ≠ g ∧ L ≠ c) : Dr (L2.upd H L o) d g c m := by
  obtain ⟨⟨l, t, h0, h1, h2⟩, ⟨a, h3⟩, ⟨b, h4⟩, h5⟩ := D
  exact ⟨⟨l, t, h0, h1, by rw [upd_ne h.1.symm]; exact h2⟩, ⟨a, by rw [upd_ne h.2.1.symm]; exact h3⟩, ⟨b, by rw [upd_ne h.2.2.symm]; exact h4⟩, h5⟩
theorem Mv.put {d g L : Addr} {H H2 : Hp} {o : HO} (m : Mv d g H H2) (h : H L = none) : Mv d g H (L2.upd H2 L o) := fun b x h1 h2 e => by
  rw [upd_ne (ne_of_none e h)]
  exact m _ _ h1 h2 e
theorem num_log : ∀ j ∈ List.range 30, ((10 : Int) + (j : Int)).natAbs.log2 < 1920 := by decide +kernel
section
variable {P : Program} {w : World} {K : PySem.W.Frag} {mg : Str → Option Value} {base : Heap}
/-- n drawn names, all different -/
def spNames : Sp := fun vs H Q _ => ∃ (d g c : Addr) (m n : Nat), vs = [.ref d, .int n] ∧ Dr H d g c m ∧ m + 40 * n ≤ 1000000000 ∧ n < 30 ∧
  ∀ (q : Addr) (l : List Str) (H' : Hp), H q = none → l.length = n → l.Nodup → (∀ z ∈ l, isN z = true) → H' q = some (.lst (l.map V.str)) → Dr H' d g c (m + 40 * n) → Mv d g H H' → Q (.ref q) H'
theorem ok_names (T : Txt K mg) : FnOk P w K mg base CX0 6 T.f_law_names T.fd_law_names ["_law_state", "_law_many"] spNames := by
  refine T.F_law_names.ok sc_law_names (fun vs H Q E h => ?_) (fun cdv A outer s H vs Q E hr h => ?_)
  · obtain ⟨d, g, c, m, n, rfl, _⟩ := h
    rfl
  · obtain ⟨d, g, c, m, n, rfl, D, hm, hn, k⟩ := h
    refine ⟨_, (pss_cons (ps_set (i := 2) sc_law_names.nd rfl (Or.inr rfl) (pe_lst pa_nil))
      (pss_cons (ps_for PassesOwn.never rfl (pi_range1 (by rfl) T.z_range (pa_cons (pv 1) pa_nil)) (pg_name (i := 3) sc_law_names.nd rfl (Or.inl rfl))
        (pss_cons (ps_set (i := 4) sc_law_names.nd rfl (Or.inr rfl) (pe_call (ok_any_name T) (hr.mono (by decide)) rfl T.g_law_any_name T.F_law_any_name.kp T.b_law_any_name .nil pass0 (pa_cons (pv 0) pa_nil)))
      (pss_cons (ps_set (i := 5) sc_law_names.nd rfl (Or.inl rfl) (pe_op op_cat (pe_lst (pa_cons (pv 4) pa_nil)) (pe_lc (own := [("_law_k", 6)]) (g := gName 6) (by rfl) sc_law_names.nd (pi_range2 (by rfl) T.z_range (pa_cons pe_int (pa_cons pe_int pa_nil))) (blkOk_by (own := [("_law_k", 6)]) (N := n_law_names) (sc := defScope s_law_names) (by decide +kernel)) (fun _ _ _ _ _ => (pg_name (i := 6) sc_law_names.nd rfl (Or.inl rfl))) (fun _ _ _ _ _ => pts_nil) (fun _ _ _ _ _ => (pe_op op_add_str (pe_slice sl_str (pv 4) po_none (po_some pe_int)) (pe_callTy call_str_int (by rfl) T.z_str (by decide +kernel) (pa_cons (pv 6) pa_nil)))))))
      (pss_one (ps_expr (pe_bm PySem.F.plainAttrs_list PySem.F.slot_list_append PySem.F.type_list_append mt_append (pv 2) (pa_cons (pe_ix (ix_listK (K := K)) (pe_lc (own := [("_law_here", 7)]) (g := gName 7) (by rfl) sc_law_names.nd (pi_list (pv 5)) (blkOk_by (own := [("_law_here", 7)]) (N := n_law_names) (sc := defScope s_law_names) (by decide +kernel)) (fun _ _ _ _ _ => (pg_name (i := 7) sc_law_names.nd rfl (Or.inl rfl))) (fun _ _ _ _ _ => (pts_one (pt_cmpR (op_notIn_seqK (K := K)) (pv 7) (pv 2) (by rfl)))) (fun _ _ _ _ _ => (pv 7))) pe_int (fun _ _ => rfl)) pa_nil)))))))
      (pss_one (ps_ret (pv 2))))), ?_⟩
    refine ⟨(by show 0 ≤ sizeLine; decide), fun L hL => ?_⟩
    have nL := dr_new D hL
    refine ⟨_, rfl, _, rfl, by omega, by omega, ?_⟩
    refine for_range (lo := 0) (n := n) (fun i σ H2 => ∃ (l : List Str) (v3 v4 v5 v6 v7 : Option V), σ = [some (.ref d), some (.int n), some (.ref L), v3, v4, v5, v6, v7] ∧ l.length = i ∧ l.Nodup ∧ (∀ z ∈ l, isN z = true) ∧
        H2 L = some (.lst (l.map V.str)) ∧ Dr H2 d g c (m + 40 * i) ∧ Mv d g H H2)
      ⟨[], none, none, none, none, none, rfl, rfl, .nil, (fun z hz => nomatch hz), upd_same, D.same (same_new hL), Mv.same (same_new hL)⟩ ?_ ?_
    · rintro i σ H2 hi ⟨l, v3, v4, v5, v6, v7, rfl, hl, nd, hN, hL2, D2, mv2⟩
      refine ⟨_, rfl, d, g, c, _, rfl, D2, by omega, fun z H3 hz D3 mv3 => ?_⟩
      have hL3 := mv3 _ _ nL.1 nL.2.1 hL2
      have hz8 := isN_len hz
      refine ⟨_, rfl, (by show 1 ≤ sizeLine; decide), fun p1 h1 => ?_⟩
      refine ⟨_, _, rfl, ⟨by decide, by decide, by decide, by decide⟩, fun p2 h2 => ?_⟩
      refine lc_range (lo := 10) (n := 30) (fun j H4 => H4 = upd (upd H3 p1 (.lst [.str z])) p2 (.lst (((List.range j).map (cand z)).map V.str))) rfl ?_ ?_
      · rintro j H4 hj rfl
        obtain ⟨e2, _, _⟩ := num_two j (List.mem_range.mpr hj)
        refine ⟨rfl, ?_⟩
        refine ⟨_, rfl, _, rfl, z, rfl, by rw [sizeLine_eq]; omega, _, rfl, _, rfl, num_log j (List.mem_range.mpr hj), _, _, rfl, rfl, ?_, ?_⟩
        · have q := cutS_length z none (some 6)
          have e3 : (numS j).length = 2 := by rw [len_tl]; exact e2
          show _ + (numS j).length ≤ sizeLine
          rw [e3, sizeLine_eq]; omega
        · refine ⟨_, upd_same, by rw [List.length_map, List.length_map, List.length_range, sizeLine_eq]; omega, ?_⟩
          rw [upd_upd, List.range_succ, List.map_append, List.map_append]; rfl
      · rintro H4 rfl
        have ne21 : p1 ≠ p2 := fun e => by rw [e, upd_same] at h2; cases h2
        refine ⟨p1, p2, _, _, rfl, rfl, by rw [upd_ne ne21]; exact upd_same, upd_same, by rw [List.length_map, List.length_map, List.length_range, sizeLine_eq]; show 1 + 30 ≤ 16777216; decide, fun p3 h3 => ?_⟩
        have ec : [V.str z] ++ ((List.range 30).map (cand z)).map V.str = (cands z).map V.str := rfl
        rw [ec]
        have S5 : Same H3 (upd (upd (upd H3 p1 (.lst [.str z])) p2 (.lst (((List.range 30).map (cand z)).map V.str))) p3 (.lst ((cands z).map V.str))) :=
          ((same_new h1).trans (same_new h2)).trans (same_new h3)
        generalize eH5 : upd (upd (upd H3 p1 (.lst [.str z])) p2 (.lst (((List.range 30).map (cand z)).map V.str))) p3 (.lst ((cands z).map V.str)) = H5 at S5
        have hp3 : H5 p3 = some (.lst ((cands z).map V.str)) := by rw [← eH5]; exact upd_same
        have hL5 := S5 _ _ hL3
        refine ⟨_, rfl, .inl ⟨rfl, _, .inl (.inl hL5)⟩, _, rfl, p3, rfl, ⟨_, .inl (.inl hp3)⟩, fun p4 h4 => ?_⟩
        refine lc_list (K := K) (a := p3) (xs := (cands z).map V.str) (fun j H6 => H6 = upd H5 p4 (.lst ((((cands z).take j).filter fun y => !decide (y ∈ l)).map V.str)))
          rfl (fun j H6 _ e => by rw [e]; exact .inl (.inl (same_new h4 _ _ hp3))) ?_ ?_
        · rintro j x H6 hx rfl
          obtain ⟨y, hy, rfl⟩ := get_strs hx
          refine ⟨rfl, ?_⟩
          refine ⟨_, rfl, _, rfl, L, _, rfl, .inl (.inl (.inl (same_new h4 _ _ hL5))), rfl, flat_strs _, ?_⟩
          rw [inV_strs]
          refine ⟨_, rfl, ite2 (fun e => ?_) fun e => ?_⟩
          · refine ⟨_, rfl, _, upd_same, small1000 ?_, ?_⟩
            · rw [List.length_map]
              have := fl_len (l := cands z) j (fun y => !decide (y ∈ l))
              have e31 : (cands z).length = 31 := by unfold cands; rw [List.length_cons, List.length_map, List.length_range]
              omega
            · rw [upd_upd, fl_take _ hy, if_pos (show (!decide (y ∈ l)) = true from e), List.map_append]; rfl
          · show upd H5 p4 _ = _
            rw [fl_take _ hy, if_neg (show ¬ (!decide (y ∈ l)) = true from e), List.append_nil]
        · rintro H6 rfl
          rw [List.length_map, List.take_length]
          have hne := cand_new (z := z) (l := l) (by omega)
          match ef : (cands z).filter (fun y => !decide (y ∈ l)) with
          | [] => exact absurd ef hne
          | y :: r =>
            have hy : y ∈ (cands z).filter (fun y => !decide (y ∈ l)) := by rw [ef]; exact List.mem_cons.mpr (.inl rfl)
            have hy2 := List.mem_filter.mp hy
            have hyl : y ∉ l := by simpa using hy2.2
            refine ⟨p4, _, _, .str y, rfl, rfl, .inl (.inl upd_same), atI_nat (j := 0) rfl, ?_⟩
            have S6 : Same H3 (upd H5 p4 (.lst ((y :: r).map V.str))) := S5.trans (same_new h4)
            refine ⟨L, _, _, rfl, rfl, S6 _ _ hL3, by rw [List.length_map, sizeLine_eq]; omega, ?_⟩
            refine ⟨l ++ [y], _, _, _, _, _, rfl, by rw [List.length_append, hl]; rfl, ?_, ?_, ?_, ?_, ?_⟩
            · exact List.nodup_append.mpr ⟨nd, by simp, fun u hu v hv => by rw [List.mem_singleton.mp hv]; exact fun e => hyl (e ▸ hu)⟩
            · intro x hx
              rcases List.mem_append.mp hx with hx | hx
              · exact hN x hx
              · rw [List.mem_singleton.mp hx]; exact cands_ok hz y hy2.1
            · rw [upd_same, List.map_append]; rfl
            · exact ((D3.same S6).upd nL).mono (by omega)
            · exact ((mv2.trans mv3).trans (Mv.same S6)).put hL
    · rintro σ H2 ⟨l, v3, v4, v5, v6, v7, rfl, hl, nd, hN, hL2, D2, mv2⟩
      exact ⟨_, rfl, k L l H2 hL hl nd hN hL2 D2 mv2⟩
end
end Sn

/-! ## law_k04: _law_set, _law_is -/
namespace Sn
open PySem PySem.Spec PyProof.Rows L2 TL
section
variable {P : Program} {w : World} {K : PySem.W.Frag} {mg : Str → Option Value} {base : Heap}
/-- Names of at most four paths that stand in a list -/
def spSet (C : Addr) : Sp := fun vs H Q _ => ∃ (q : Addr) (l : List Str), vs = [.ref q] ∧ H q = some (.lst (l.map V.str)) ∧ l.length ≤ 4 ∧ (∀ z ∈ l, Pth z) ∧
  ∀ (x : Addr) (ys : List Str) (H2 : Hp), Nm C H2 x ys → Same H H2 → (∀ z, z ∈ ys ↔ z ∈ l) → Q (.ref x) H2
theorem ok_set (T : Txt K mg) : FnOk P w K mg base CX0 6 T.f_law_set T.fd_law_set ["_law_some"] (spSet T.C_Names) := by
  refine T.F_law_set.ok sc_law_set (fun vs H Q E h => ?_) (fun cdv A outer s H vs Q E hr h => ?_)
  · obtain ⟨q, l, rfl, _⟩ := h
    rfl
  · obtain ⟨q, l, rfl, hq, hl, hp, k⟩ := h
    have sq : SqL K H q (l.map V.str) := .inl (.inl hq)
    have ln : ∀ n : Nat, n = (l.map V.str).length → LenV K (.ref q) H n := fun n e => .inl ⟨_, sq, e⟩
    have fin : ∀ (x : Addr) (ys : List Str) (H2 : Hp), Nm T.C_Names H2 x ys → Same H H2 → (∀ z, z ∈ ys ↔ z ∈ l) → ys.length ≤ l.length → Q (.ref x) H2 := fun x ys H2 N s m _ => k x ys H2 N s m
    have mk := made (C := T.C_Names) (H := H) (l := l) (Q := Q) (E := E0) (by omega) hp fin
    refine ⟨_, (pss_cons (ps_if (pt_cmpR op_eq (pe_callB call_len (by rfl) T.z_len (by decide +kernel) (pa_cons (pv 0) pa_nil)) pe_int (nomark _))
        (pss_one (ps_ret (pe_makeR0 T.mk_Names (ok_init T) (hr.mono (by decide)) (by rfl) T.gC_Names pass0)))
        pss_nil)
      (pss_cons (ps_if (pt_cmpR op_eq (pe_callB call_len (by rfl) T.z_len (by decide +kernel) (pa_cons (pv 0) pa_nil)) pe_int (nomark _))
        (pss_one (ps_ret (StX.pe_makeR T.mk_Names (ok_init T) (hr.mono (by decide)) (by rfl) T.gC_Names pass0 (pa_cons (pe_ix (ix_listK (K := K)) (pv 0) pe_int (fun _ _ => rfl)) pa_nil))))
        pss_nil)
      (pss_cons (ps_if (pt_cmpR op_eq (pe_callB call_len (by rfl) T.z_len (by decide +kernel) (pa_cons (pv 0) pa_nil)) pe_int (nomark _))
        (pss_one (ps_ret (StX.pe_makeR T.mk_Names (ok_init T) (hr.mono (by decide)) (by rfl) T.gC_Names pass0 (pa_cons (pe_ix (ix_listK (K := K)) (pv 0) pe_int (fun _ _ => rfl)) (pa_cons (pe_ix (ix_listK (K := K)) (pv 0) pe_int (fun _ _ => rfl)) pa_nil)))))
        pss_nil)
      (pss_cons (ps_if (pt_cmpR op_eq (pe_callB call_len (by rfl) T.z_len (by decide +kernel) (pa_cons (pv 0) pa_nil)) pe_int (nomark _))
        (pss_one (ps_ret (StX.pe_makeR T.mk_Names (ok_init T) (hr.mono (by decide)) (by rfl) T.gC_Names pass0 (pa_cons (pe_ix (ix_listK (K := K)) (pv 0) pe_int (fun _ _ => rfl)) (pa_cons (pe_ix (ix_listK (K := K)) (pv 0) pe_int (fun _ _ => rfl)) (pa_cons (pe_ix (ix_listK (K := K)) (pv 0) pe_int (fun _ _ => rfl)) pa_nil))))))
        pss_nil)
      (pss_one (ps_ret (StX.pe_makeR T.mk_Names (ok_init T) (hr.mono (by decide)) (by rfl) T.gC_Names pass0 (pa_cons (pe_ix (ix_listK (K := K)) (pv 0) pe_int (fun _ _ => rfl)) (pa_cons (pe_ix (ix_listK (K := K)) (pv 0) pe_int (fun _ _ => rfl)) (pa_cons (pe_ix (ix_listK (K := K)) (pv 0) pe_int (fun _ _ => rfl)) (pa_cons (pe_ix (ix_listK (K := K)) (pv 0) pe_int (fun _ _ => rfl)) pa_nil))))))))))), ?_⟩
    match l, hl, hq, sq, ln, mk with
    | [], _, hq, sq, ln, mk =>
      refine ⟨_, rfl, _, 0, rfl, ln 0 rfl, rfl, _, rfl, iteT ?_⟩
      exact mk
    | [a], _, hq, sq, ln, mk =>
      refine ⟨_, rfl, _, 1, rfl, ln 1 rfl, rfl, _, rfl, iteF ?_⟩
      refine ⟨_, rfl, _, 1, rfl, ln 1 rfl, rfl, _, rfl, iteT ?_⟩
      refine ⟨_, rfl, q, _, _, _, rfl, rfl, sq, atI_nat (j := 0) rfl, ?_⟩
      exact mk
    | [a, b], _, hq, sq, ln, mk =>
      refine ⟨_, rfl, _, 2, rfl, ln 2 rfl, rfl, _, rfl, iteF ?_⟩
      refine ⟨_, rfl, _, 2, rfl, ln 2 rfl, rfl, _, rfl, iteF ?_⟩
      refine ⟨_, rfl, _, 2, rfl, ln 2 rfl, rfl, _, rfl, iteT ?_⟩
      refine ⟨_, rfl, q, _, _, _, rfl, rfl, sq, atI_nat (j := 0) rfl, ?_⟩
      refine ⟨_, rfl, q, _, _, _, rfl, rfl, sq, atI_nat (j := 1) rfl, ?_⟩
      exact mk
    | [a, b, c], _, hq, sq, ln, mk =>
      refine ⟨_, rfl, _, 3, rfl, ln 3 rfl, rfl, _, rfl, iteF ?_⟩
      refine ⟨_, rfl, _, 3, rfl, ln 3 rfl, rfl, _, rfl, iteF ?_⟩
      refine ⟨_, rfl, _, 3, rfl, ln 3 rfl, rfl, _, rfl, iteF ?_⟩
      refine ⟨_, rfl, _, 3, rfl, ln 3 rfl, rfl, _, rfl, iteT ?_⟩
      refine ⟨_, rfl, q, _, _, _, rfl, rfl, sq, atI_nat (j := 0) rfl, ?_⟩
      refine ⟨_, rfl, q, _, _, _, rfl, rfl, sq, atI_nat (j := 1) rfl, ?_⟩
      refine ⟨_, rfl, q, _, _, _, rfl, rfl, sq, atI_nat (j := 2) rfl, ?_⟩
      exact mk
    | [a, b, c, d], _, hq, sq, ln, mk =>
      refine ⟨_, rfl, _, 4, rfl, ln 4 rfl, rfl, _, rfl, iteF ?_⟩
      refine ⟨_, rfl, _, 4, rfl, ln 4 rfl, rfl, _, rfl, iteF ?_⟩
      refine ⟨_, rfl, _, 4, rfl, ln 4 rfl, rfl, _, rfl, iteF ?_⟩
      refine ⟨_, rfl, _, 4, rfl, ln 4 rfl, rfl, _, rfl, iteF ?_⟩
      refine ⟨_, rfl, q, _, _, _, rfl, rfl, sq, atI_nat (j := 0) rfl, ?_⟩
      refine ⟨_, rfl, q, _, _, _, rfl, rfl, sq, atI_nat (j := 1) rfl, ?_⟩
      refine ⟨_, rfl, q, _, _, _, rfl, rfl, sq, atI_nat (j := 2) rfl, ?_⟩
      refine ⟨_, rfl, q, _, _, _, rfl, rfl, sq, atI_nat (j := 3) rfl, ?_⟩
      exact mk
    | a :: b :: c :: d :: e :: r, hl, _, _, _, _ =>
      simp only [List.length_cons] at hl
      omega
/-- the law's look at a set: it has the paths of due -/
def spIs (C : Addr) : Sp := fun vs H Q _ => ∃ (a q e : Addr) (ys due ev : List Str), vs = [.ref a, .ref q, .ref e] ∧ Nm C H a ys ∧ H q = some (.lst (due.map V.str)) ∧ H e = some (.lst (ev.map V.str)) ∧
  due.Nodup ∧ due.length < 64 ∧ ev.length ≤ 1000 ∧ (∀ z, z ∈ ys ↔ z ∈ due) ∧ (∀ z ∈ ev, z.length ≤ 1000) ∧ ∀ H', Same H H' → Q (.bl true) H'
theorem ok_is (T : Txt K mg) : FnOk P w K mg base CX0 3 T.f_law_is T.fd_law_is ["_law_made", "_law_due", "_law_every"] (spIs T.C_Names) := by
  refine T.F_law_is.ok sc_law_is (fun vs H Q E h => ?_) (fun cdv A outer s H vs Q E hr h => ?_)
  · obtain ⟨a, q, e, ys, due, ev, rfl, _⟩ := h
    rfl
  · obtain ⟨a, q, e, ys, due, ev, rfl, N, hq, he, nd, h64, hev, mem, hz, k⟩ := h
    refine ⟨_, (pss_cons (ps_if (PW.pt (pw_or (pt_cmpR (op_neDK (K := K) hr.units) (pe_callTy call_list_of (by rfl) T.z_list (by decide +kernel) (pa_cons (pe_fldK (K := K) (pv 0)) pa_nil)) (pe_callB cr_sortedS (by rfl) T.z_sorted (by decide +kernel) (pa_cons (pv 1) pa_nil)) (nomark _)) (pw_or1 (pt_cmpR op_ne (pe_callB (own_len (ok_lenN T) (hr.mono (by decide)) T.m_Names_len.at_ T.m_Names_len.fn T.b_Names_len pass0) (by rfl) T.z_len (by decide +kernel) (pa_cons (pv 0) pa_nil)) (pe_callB call_len (by rfl) T.z_len (by decide +kernel) (pa_cons (pv 1) pa_nil)) (nomark _)))))
        (pss_one (ps_ret pe_bl))
        pss_nil)
      (pss_one (ps_ret (pe_cmpR (op_eqDK (K := K) hr.units) (pe_lc (own := [("_law_path", 3)]) (g := gName 3) (by rfl) sc_law_is.nd (pi_list (pv 2)) (blkOk_by (own := [("_law_path", 3)]) (N := n_law_is) (sc := defScope s_law_is) (by decide +kernel)) (fun _ _ _ _ _ => (pg_name (i := 3) sc_law_is.nd rfl (Or.inl rfl))) (fun _ _ _ _ _ => (pts_one (pt_cmpR op_ne (pe_cmpR (own_in (ok_has T) (hr.mono (by decide)) T.m_Names_contains.at_ T.m_Names_contains.fn T.b_Names_contains pass0) (pv 3) (pv 0) (by rfl)) (pe_cmpR (op_in_seqK (K := K)) (pv 3) (pv 1) (by rfl)) (nomark _)))) (fun _ _ _ _ _ => (pv 3))) (pe_lst pa_nil) (nomark _))))), ?_⟩
    obtain ⟨dx, t, h1, ht⟩ := N.at_
    refine ⟨_, rfl, a, _, dx, _, _, rfl, h1, T.cl_Names, T.at_Names_paths, rfl, t, _, rfl, .inr (.inl (.inl ht)), fun p1 n1 => ?_⟩
    have s1 := same_new (o := .lst (ys.map V.str)) n1
    refine ⟨_, rfl, q, due, rfl, .inl (.inl (s1 _ _ hq)), h64, fun ds p2 pm so n2 => ?_⟩
    have eds : ds = ys := ris_eq (ris_of ds so (pm.nodup_iff.mpr nd)) N.ris fun z => by rw [pm.mem_iff, mem]
    subst eds
    have s2 := s1.trans (same_new (o := .lst (ds.map V.str)) n2)
    have N2 := N.same s2
    refine ⟨_, _, .lst (.inl (.inl (same_new n2 _ _ upd_same))) (dp_strs ds), .lst (.inl (.inl upd_same)) (dp_strs ds), shaped_strs _ N.asc, shaped_strs _ N.asc, _, rfl, ?_⟩
    rw [eqv_lists, decide_eq_true rfl]
    refine iteF ?_
    obtain ⟨dx2, t2, g1, gt⟩ := N2.at_
    have hlen : ds.length = due.length := pm.length_eq
    refine ⟨_, rfl, a, dx2, _, rfl, g1, a, ds, rfl, N2, by omega, ds.length, by omega, rfl, ?_⟩
    refine ⟨_, rfl, _, due.length, rfl, .inl ⟨_, .inl (.inl (s2 _ _ hq)), by rw [List.length_map]⟩, rfl, _, rfl, ?_⟩
    rw [show (!decide (V.int (ds.length : Int) = V.int (due.length : Int))) = false by rw [hlen, decide_eq_true rfl]; rfl]
    refine iteF ?_
    generalize upd (upd H p1 (.lst (ds.map V.str))) p2 (.lst (ds.map V.str)) = H3 at s2 N2 g1 gt
    refine ⟨_, rfl, e, rfl, ⟨_, .inl (.inl (s2 _ _ he))⟩, fun D hD => ?_⟩
    have s3 := same_new (o := .lst []) hD
    refine lc_list (K := K) (a := e) (xs := ev.map V.str) (fun i H4 => H4 = upd H3 D (.lst [])) rfl (fun i H4 _ e => by rw [e]; exact .inl (.inl (s3 _ _ (s2 _ _ he)))) ?_ ?_
    · rintro i x H4 hx rfl
      obtain ⟨z, hzi, rfl⟩ := get_strs hx
      refine ⟨rfl, ?_⟩
      refine ⟨_, rfl, _, rfl, a, dx2, _, rfl, s3 _ _ g1, a, ds, _, rfl, N2.same s3, .inl ⟨z, rfl, hz z (List.mem_of_getElem? hzi)⟩, _, rfl, ?_⟩
      refine ⟨_, rfl, _, rfl, q, _, rfl, .inl (.inl (.inl (s3 _ _ (s2 _ _ hq)))), rfl, flat_strs _, rfl, _, rfl, ?_⟩
      refine iteNS (congrArg V.bl ?_) rfl
      show decide (z ∈ ds) = inV (.str z) (due.map V.str)
      rw [inV_strs]
      exact decide_eq_decide.mpr (mem z)
    · rintro H4 rfl
      refine ⟨(by show 0 ≤ sizeLine; decide), fun p3 n3 => ?_⟩
      have s4 := s3.trans (same_new (o := .lst []) n3)
      exact ⟨_, _, .lst (.inl (.inl (same_new n3 _ _ upd_same))) .nil, .lst (.inl (.inl upd_same)) .nil, rfl, rfl, k _ (s2.trans s4)⟩
end
end Sn

/-! ## law_k04: two sets joined -/
namespace Sn
open PySem PySem.Spec PyProof.Rows L2 TL
section
variable {K : PySem.W.Frag}
theorem in_reads {H : Hp} {f : Addr} {l : List Str} {z : Str} {Q : VK} (h : H f = some (.lst (l.map V.str))) (q : Q (.bl (decide (z ∈ l))) H) : rIn K false (.str z) (.ref f) H Q := by
  refine ⟨f, _, rfl, .inl (.inl (.inl h)), rfl, flat_strs _, ?_⟩
  rw [inV_strs]
  exact q
theorem notin_reads {H : Hp} {f : Addr} {l : List Str} {z : Str} {Q : VK} (h : H f = some (.lst (l.map V.str))) (q : Q (.bl (!decide (z ∈ l))) H) : rIn K true (.str z) (.ref f) H Q := by
  refine ⟨f, _, rfl, .inl (.inl (.inl h)), rfl, flat_strs _, ?_⟩
  rw [inV_strs]
  exact q
/-- [z for z in ev if p z], ev a list of texts -/
theorem lc_fil {a D : Addr} {ev : List Str} {i : Nat} {vs : List Nat} {tt : TT} {σ : L2.St} {H : Hp} {Qd : Hp → Prop} (p : Str → Bool) (hl : ev.length ≤ 1000) (he : H a = some (.lst (ev.map V.str))) (hD : H D = none)
    (hi : ∀ v, ((wipe σ vs).set i v)[i]? = some v) (hw : ∀ v, wipe ((wipe σ vs).set i v) vs = wipe σ vs)
    (ht : ∀ z ∈ ev, ∀ (acc : List V) (R : Bool → Hp → Prop), R (p z) (upd H D (.lst acc)) → tt ((wipe σ vs).set i (some (.str z))) (upd H D (.lst acc)) R)
    (hd : Qd (upd H D (.lst ((ev.filter p).map V.str)))) :
    ∃ W : Nat → Nat → Hp → Prop, (∃ m, W 0 m (upd H D (.lst []))) ∧ ∀ j m H1, W j m H1 →
      ((Itl K a).stop j H1 ∧ Qd H1) ∨ ((Itl K a).go j H1 ∧ ∃ Nx : Hp → Prop, (∀ H', Nx H' → ∃ m', m' < m ∧ W (j + 1) m' H') ∧ ∀ x H', (Itl K a).yld j H1 x H' → gName i x (wipe σ vs) H' fun σ2 H2 => wipe σ2 vs = wipe σ vs ∧ tt σ2 H2 fun b H3 =>
        if b = true then tVar i σ2 H3 fun y H4 => ∃ acc, H4 D = some (.lst acc) ∧ acc.length < sizeLine ∧ Nx (upd H4 D (.lst (acc ++ [y]))) else Nx H3) := by
  refine lc_list (K := K) (a := a) (xs := ev.map V.str) (fun j H1 => H1 = upd H D (.lst (((ev.take j).filter p).map V.str))) rfl (fun j H1 _ q => by rw [q]; exact .inl (.inl (same_new hD _ _ he))) ?_ ?_
  · rintro j x H1 hx rfl
    obtain ⟨z, hz, rfl⟩ := get_strs hx
    refine ⟨hw _, ht z (List.mem_of_getElem? hz) _ _ ?_⟩
    by_cases e : p z = true
    · rw [if_pos e]
      refine ⟨_, hi _, _, upd_same, small1000 ?_, ?_⟩
      · rw [List.length_map]
        have := fl_len (l := ev) j p
        omega
      · rw [upd_upd, fl_take _ hz, if_pos e, List.map_append]; rfl
    · rw [if_neg e, fl_take _ hz, if_neg e, List.append_nil]
  · rintro H1 rfl
    rw [List.length_map, List.take_length]
    exact hd
end
section
variable {P : Program} {w : World} {K : PySem.W.Frag} {mg : Str → Option Value} {base : Heap}
def g2 : List Value → List Value → List Value
  | [a], [b] => [a, b]
  | _, _ => []
def gV2 : List V → List V → List V
  | [a], [b] => [a, b]
  | _, _ => []
theorem kb_within (T : Txt K mg) : KBinds K T.fd_Names_within ["self", "other"] ["other"] g2 gV2 := by
  obtain ⟨oc, od, kV, dc, pm, an, cd, ct, sl, e, lk, hcd⟩ := T.F_Names_within.ex
  rw [e]
  refine ⟨fun s us ws _ hl => ?_, fun {vs us zs ws} a b => ?_⟩
  · match us, ws, hl with
    | [_], [_], _ => exact .of_eq rfl
    | [], _, hl => cases hl
    | [_], [], hl => cases hl
    | [_], _ :: _ :: _, hl => cases hl
    | _ :: _ :: _, _, hl => cases hl
  · match vs, us, zs, ws, a, b with
    | [_], [_], [_], [_], .cons x .nil, .cons y .nil => exact .cons x (.cons y .nil)
    | [], [], _, _, _, _ => exact .nil
    | [_], [_], [], [], _, _ => exact .nil
    | [_], [_], _ :: _ :: _, _ :: _ :: _, _, _ => exact .nil
    | _ :: _ :: _, _ :: _ :: _, _, _, _, _ => exact .nil
theorem shown3 : ∀ b1 b2 b3 : Bool, (PyData.list [.bool b1, .bool b2, .bool b3]).shown.length ≤ sizeLine := by
  intro b1 b2 b3
  cases b1 <;> cases b2 <;> cases b3 <;> decide +kernel
theorem bin_reads {C : Addr} {H : Hp} {a b : Addr} {ys zs : List Str} {W : List Str → List Str → Str → Prop} {Q : VK} {E : XK} (N : Nm C H a ys) (M : Nm C H b zs) (hl : ys.length + zs.length < 64)
    (k : ∀ (x : Addr) (us : List Str) (H2 : Hp), Nm C H2 x us → Same H H2 → (∀ z, z ∈ us ↔ W ys zs z) → us.length ≤ ys.length + zs.length → Q (.ref x) H2) :
    ∃ a' b' dx dy fs gs, V.ref a = .ref a' ∧ V.ref b = .ref b' ∧ H a' = some (.ins C dx fs) ∧ H b' = some (.ins C dy gs) ∧ spBin C W [.ref a, .ref b] H Q E := by
  obtain ⟨dx, t, h1, ht⟩ := N.at_
  obtain ⟨ex, u, g1, hu⟩ := M.at_
  exact ⟨a, b, dx, ex, _, _, rfl, rfl, h1, g1, a, b, ys, zs, rfl, N, M, hl, k⟩
structure Two (C : Addr) (H : Hp) (a b f m e : Addr) (ys zs fw mn ev : List Str) : Prop where
  N : Nm C H a ys
  M : Nm C H b zs
  hf : H f = some (.lst (fw.map V.str))
  hm : H m = some (.lst (mn.map V.str))
  he : H e = some (.lst (ev.map V.str))
  nd : ev.Nodup
  le : ev.length ≤ 20
  pt : ∀ z ∈ ev, Pth z
  mf : ∀ z, z ∈ ys ↔ z ∈ fw
  mm : ∀ z, z ∈ zs ↔ z ∈ mn
  sf : ∀ z ∈ fw, z ∈ ev
  sm : ∀ z ∈ mn, z ∈ ev
theorem Two.same {C : Addr} {H H' : Hp} {a b f m e : Addr} {ys zs fw mn ev : List Str} (t : Two C H a b f m e ys zs fw mn ev) (s : Same H H') : Two C H' a b f m e ys zs fw mn ev :=
  ⟨t.N.same s, t.M.same s, s _ _ t.hf, s _ _ t.hm, s _ _ t.he, t.nd, t.le, t.pt, t.mf, t.mm, t.sf, t.sm⟩
theorem Two.ly {C : Addr} {H : Hp} {a b f m e : Addr} {ys zs fw mn ev : List Str} (t : Two C H a b f m e ys zs fw mn ev) : ys.length ≤ 20 :=
  Nat.le_trans (nodup_len ys ev (ris_nodup t.N.ris) fun z hz => t.sf z ((t.mf z).mp hz)) t.le
theorem Two.lz {C : Addr} {H : Hp} {a b f m e : Addr} {ys zs fw mn ev : List Str} (t : Two C H a b f m e ys zs fw mn ev) : zs.length ≤ 20 :=
  Nat.le_trans (nodup_len zs ev (ris_nodup t.M.ris) fun z hz => t.sm z ((t.mm z).mp hz)) t.le
def spPair (C : Addr) : Sp := fun vs H Q _ => ∃ (a b f m e : Addr) (ys zs fw mn ev : List Str), vs = [.ref a, .ref b, .ref f, .ref m, .ref e] ∧ Two C H a b f m e ys zs fw mn ev ∧ ∀ H', Same H H' → Q (.bl true) H'
theorem ok_pair (T : Txt K mg) : FnG P w K mg base CX0 7 T.f_law_pair_right T.fd_law_pair_right ["_law_one", "_law_second", "_law_few", "_law_many", "_law_every"] (spPair T.C_Names) := by
  refine okG T.F_law_pair_right sc_law_pair_right (fun vs H Q E h => ?_) (fun cdv A outer s H vs Q E hgu hr h => ?_)
  · obtain ⟨a, b, f, m, e, ys, zs, fw, mn, ev, rfl, _⟩ := h
    rfl
  · obtain ⟨a, b, f, m, e, ys, zs, fw, mn, ev, rfl, W, k⟩ := h
    refine ⟨_, (pss_cons (ps_setLc (i := 5) (own := [("_law_path", 9)]) (g := gName 9) rfl sc_law_pair_right.nd rfl rfl (sw_true rfl rfl rfl (by decide +kernel)) (pi_list (pv 4)) (blkOk_by (own := [("_law_path", 9)]) (N := n_law_pair_right) (sc := defScope s_law_pair_right) (by decide +kernel)) (fun _ _ _ _ _ => (pg_name (i := 9) sc_law_pair_right.nd rfl (Or.inl rfl))) (fun _ _ _ _ _ => (pts_one (PW.pt (pw_or (pt_cmpR (op_in_seqK (K := K)) (pv 9) (pv 2) (by rfl)) (pw_or1 (pt_cmpR (op_in_seqK (K := K)) (pv 9) (pv 3) (by rfl))))))) (fun _ _ _ _ _ => (pv 9)))
      (pss_cons (ps_setLc (i := 6) (own := [("_law_path", 9)]) (g := gName 9) rfl sc_law_pair_right.nd rfl rfl (sw_true rfl rfl rfl (by decide +kernel)) (pi_list (pv 4)) (blkOk_by (own := [("_law_path", 9)]) (N := n_law_pair_right) (sc := defScope s_law_pair_right) (by decide +kernel)) (fun _ _ _ _ _ => (pg_name (i := 9) sc_law_pair_right.nd rfl (Or.inl rfl))) (fun _ _ _ _ _ => (pts_one (PW.pt (pw_and (pt_cmpR (op_in_seqK (K := K)) (pv 9) (pv 2) (by rfl)) (pw_and1 (pt_cmpR (op_in_seqK (K := K)) (pv 9) (pv 3) (by rfl))))))) (fun _ _ _ _ _ => (pv 9)))
      (pss_cons (ps_setLc (i := 7) (own := [("_law_path", 9)]) (g := gName 9) rfl sc_law_pair_right.nd rfl rfl (sw_true rfl rfl rfl (by decide +kernel)) (pi_list (pv 4)) (blkOk_by (own := [("_law_path", 9)]) (N := n_law_pair_right) (sc := defScope s_law_pair_right) (by decide +kernel)) (fun _ _ _ _ _ => (pg_name (i := 9) sc_law_pair_right.nd rfl (Or.inl rfl))) (fun _ _ _ _ _ => (pts_one (PW.pt (pw_and (pt_cmpR (op_in_seqK (K := K)) (pv 9) (pv 2) (by rfl)) (pw_and1 (pt_cmpR (op_notIn_seqK (K := K)) (pv 9) (pv 3) (by rfl))))))) (fun _ _ _ _ _ => (pv 9)))
      (pss_cons (ps_if (PW.pt (pw_or (pt_not (pt_val (pe_call (ok_is T) (hr.mono (by decide)) rfl T.g_law_is T.F_law_is.kp T.b_law_is .nil pass0 (pa_cons (pe_op (own_bin (op := .BitOr) (ok_or T) (hr.mono (by decide)) T.sf_Names T.m_Names_or.at_ T.m_Names_or.fn T.b_Names_or pass0) (pv 0) (pv 1)) (pa_cons (pv 5) (pa_cons (pv 4) pa_nil)))))) (pw_or1 (pt_not (pt_val (pe_call (ok_is T) (hr.mono (by decide)) rfl T.g_law_is T.F_law_is.kp T.b_law_is .nil pass0 (pa_cons (pe_op (own_bin (op := .BitAnd) (ok_and T) (hr.mono (by decide)) T.sf_Names T.m_Names_and.at_ T.m_Names_and.fn T.b_Names_and pass0) (pv 0) (pv 1)) (pa_cons (pv 6) (pa_cons (pv 4) pa_nil)))))))))
        (pss_one (ps_ret pe_bl))
        pss_nil)
      (pss_cons (ps_if (PW.pt (pw_or (pt_not (pt_val (pe_call (ok_is T) (hr.mono (by decide)) rfl T.g_law_is T.F_law_is.kp T.b_law_is .nil pass0 (pa_cons (pe_op (own_bin (op := .Sub) (ok_sub T) (hr.mono (by decide)) T.sf_Names T.m_Names_sub.at_ T.m_Names_sub.fn T.b_Names_sub pass0) (pv 0) (pv 1)) (pa_cons (pv 7) (pa_cons (pv 4) pa_nil)))))) (pw_or1 (pt_not (pt_val (pe_call (ok_is T) (hr.mono (by decide)) rfl T.g_law_is T.F_law_is.kp T.b_law_is .nil pass0 (pa_cons (ClX.pe_cmeth (pe_glob (v := .ref T.C_Names) rfl T.gC_Names rfl) T.cr_Names_gathered T.cm_Names_gathered (ok_gathered T) (hr.mono (by decide)) pass0 (pa_cons (pv 0) (pa_cons (pv 1) pa_nil))) (pa_cons (pv 5) (pa_cons (pv 4) pa_nil)))))))))
        (pss_one (ps_ret pe_bl))
        pss_nil)
      (pss_cons (ps_set (i := 8) sc_law_pair_right.nd rfl (Or.inl rfl) (pe_lst (pa_cons (pe_meth (pv 0) T.cl_Names T.m_Names_within (ok_within T) (hr.mono (by decide)) T.b_Names_within .nil pass0 (pa_cons (pv 1) pa_nil)) (pa_cons (pe_methK0 (pv 0) T.cl_Names T.m_Names_within (ok_within T) (hr.mono (by decide)) (kb_within T) pass0 (pk_cons (pe_op (own_bin (op := .BitOr) (ok_or T) (hr.mono (by decide)) T.sf_Names T.m_Names_or.at_ T.m_Names_or.fn T.b_Names_or pass0) (pv 0) (pv 1)) pk_nil)) (pa_cons (pe_meth (pe_op (own_bin (op := .Sub) (ok_sub T) (hr.mono (by decide)) T.sf_Names T.m_Names_sub.at_ T.m_Names_sub.fn T.b_Names_sub pass0) (pv 0) (pv 1)) T.cl_Names T.m_Names_within (ok_within T) (hr.mono (by decide)) T.b_Names_within .nil pass0 (pa_cons (pv 1) pa_nil)) pa_nil)))))
      (pss_one (ps_ret (pe_cmpR op_eq (pe_callB (call_repr hgu (hu70 hr)) (by rfl) T.z_repr (by decide +kernel) (pa_cons (pv 8) pa_nil)) (pe_callB (call_repr hgu (hu70 hr)) (by rfl) T.z_repr (by decide +kernel) (pa_cons (pe_lst (pa_cons (pe_cmpR (op_eqDK (K := K) hr.units) (pv 7) (pe_lst pa_nil) (nomark _)) (pa_cons pe_bl (pa_cons (pe_cmpR (op_eqDK (K := K) hr.units) (pv 7) (pe_lst pa_nil) (nomark _)) pa_nil)))) pa_nil)) (nomark _)))))))))), ?_⟩
    have ly := W.ly
    have lz := W.lz
    have lev := W.le
    have small : ∀ (i : Nat) (p : Str → Bool), (((ev.take i).filter p).map V.str).length < sizeLine := fun i p => by
      rw [List.length_map]
      have := fl_len (l := ev) i p
      exact small1000 (by omega)
    -- both
    refine ⟨_, rfl, e, rfl, ⟨_, .inl (.inl W.he)⟩, fun p1 n1 => ?_⟩
    refine lc_fil (K := K) (ev := ev) (fun z => decide (z ∈ fw) || decide (z ∈ mn)) (by omega) W.he n1 (fun _ => rfl) (fun _ => rfl) (fun z hz acc R h => ?_) ?_
    · have W1 := W.same (same_new (o := .lst acc) n1)
      refine ⟨_, rfl, _, rfl, in_reads W1.hf ⟨_, rfl, ?_⟩⟩
      by_cases e1 : z ∈ fw
      · rw [decide_eq_true e1] at h ⊢
        exact iteT h
      · rw [decide_eq_false e1] at h ⊢
        exact iteF ⟨_, rfl, _, rfl, in_reads W1.hm ⟨_, rfl, h⟩⟩
    have s1 := same_new (o := .lst ((ev.filter fun z => decide (z ∈ fw) || decide (z ∈ mn)).map V.str)) n1
    have W1 := W.same s1
    have hb1 : (upd H p1 (.lst ((ev.filter fun z => decide (z ∈ fw) || decide (z ∈ mn)).map V.str))) p1 = some (.lst ((ev.filter fun z => decide (z ∈ fw) || decide (z ∈ mn)).map V.str)) := upd_same
    generalize upd H p1 (.lst ((ev.filter fun z => decide (z ∈ fw) || decide (z ∈ mn)).map V.str)) = H1 at s1 W1 hb1
    -- common
    refine ⟨_, rfl, e, rfl, ⟨_, .inl (.inl W1.he)⟩, fun p2 n2 => ?_⟩
    refine lc_fil (K := K) (ev := ev) (fun z => decide (z ∈ fw) && decide (z ∈ mn)) (by omega) W1.he n2 (fun _ => rfl) (fun _ => rfl) (fun z hz acc R h => ?_) ?_
    · have W2 := W1.same (same_new (o := .lst acc) n2)
      refine ⟨_, rfl, _, rfl, in_reads W2.hf ⟨_, rfl, ?_⟩⟩
      by_cases e1 : z ∈ fw
      · rw [decide_eq_true e1] at h ⊢
        exact iteT ⟨_, rfl, _, rfl, in_reads W2.hm ⟨_, rfl, h⟩⟩
      · rw [decide_eq_false e1] at h ⊢
        exact iteF h
    have s2 := same_new (o := .lst ((ev.filter fun z => decide (z ∈ fw) && decide (z ∈ mn)).map V.str)) n2
    have W2 := W1.same s2
    have hb2 : (upd H1 p2 (.lst ((ev.filter fun z => decide (z ∈ fw) && decide (z ∈ mn)).map V.str))) p2 = some (.lst ((ev.filter fun z => decide (z ∈ fw) && decide (z ∈ mn)).map V.str)) := upd_same
    have hb1 := s2 _ _ hb1
    generalize upd H1 p2 (.lst ((ev.filter fun z => decide (z ∈ fw) && decide (z ∈ mn)).map V.str)) = H2 at s2 W2 hb1 hb2
    -- rest
    refine ⟨_, rfl, e, rfl, ⟨_, .inl (.inl W2.he)⟩, fun p3 n3 => ?_⟩
    refine lc_fil (K := K) (ev := ev) (fun z => decide (z ∈ fw) && !decide (z ∈ mn)) (by omega) W2.he n3 (fun _ => rfl) (fun _ => rfl) (fun z hz acc R h => ?_) ?_
    · have W3 := W2.same (same_new (o := .lst acc) n3)
      refine ⟨_, rfl, _, rfl, in_reads W3.hf ⟨_, rfl, ?_⟩⟩
      by_cases e1 : z ∈ fw
      · rw [decide_eq_true e1] at h ⊢
        exact iteT ⟨_, rfl, _, rfl, notin_reads W3.hm ⟨_, rfl, h⟩⟩
      · rw [decide_eq_false e1] at h ⊢
        exact iteF h
    have s3 := same_new (o := .lst ((ev.filter fun z => decide (z ∈ fw) && !decide (z ∈ mn)).map V.str)) n3
    have W3 := W2.same s3
    have hb3 : (upd H2 p3 (.lst ((ev.filter fun z => decide (z ∈ fw) && !decide (z ∈ mn)).map V.str))) p3 = some (.lst ((ev.filter fun z => decide (z ∈ fw) && !decide (z ∈ mn)).map V.str)) := upd_same
    have hb1 := s3 _ _ hb1
    have hb2 := s3 _ _ hb2
    generalize upd H2 p3 (.lst ((ev.filter fun z => decide (z ∈ fw) && !decide (z ∈ mn)).map V.str)) = H3 at s3 W3 hb1 hb2 hb3
    have S3 := (s1.trans s2).trans s3
    have mBoth : ∀ z, wOr ys zs z ↔ z ∈ ev.filter fun z => decide (z ∈ fw) || decide (z ∈ mn) := fun z => by
      unfold wOr
      simp only [List.mem_filter, Bool.or_eq_true, decide_eq_true_eq, W.mf, W.mm]
      exact ⟨fun h => ⟨h.elim (W.sf z) (W.sm z), h⟩, fun h => h.2⟩
    have mCom : ∀ z, wAnd ys zs z ↔ z ∈ ev.filter fun z => decide (z ∈ fw) && decide (z ∈ mn) := fun z => by
      unfold wAnd
      simp only [List.mem_filter, Bool.and_eq_true, decide_eq_true_eq, W.mf, W.mm]
      exact ⟨fun h => ⟨W.sf z h.1, h⟩, fun h => h.2⟩
    have mRest : ∀ z, wSub ys zs z ↔ z ∈ ev.filter fun z => decide (z ∈ fw) && !decide (z ∈ mn) := fun z => by
      unfold wSub
      simp only [List.mem_filter, Bool.and_eq_true, Bool.not_eq_true', decide_eq_false_iff_not, decide_eq_true_eq, W.mf, W.mm]
      exact ⟨fun h => ⟨W.sf z h.1, h⟩, fun h => h.2⟩
    have fl : ∀ p : Str → Bool, (ev.filter p).length ≤ 20 := fun p => Nat.le_trans (List.length_filter_le _ _) lev
    have ndf : ∀ p : Str → Bool, (ev.filter p).Nodup := fun p => W.nd.filter p
    have pz : ∀ z ∈ ev, z.length ≤ 1000 := fun z hz => (W.pt z hz).l
    have hboth : (ev.filter fun z => decide (z ∈ fw) || decide (z ∈ mn)).Nodup ∧ (ev.filter fun z => decide (z ∈ fw) || decide (z ∈ mn)).length ≤ 20 := ⟨ndf _, fl _⟩
    generalize ev.filter (fun z => decide (z ∈ fw) || decide (z ∈ mn)) = both at mBoth hb1 hboth
    have nb : both.Nodup ∧ both.length ≤ 20 := hboth
    have nc := ndf fun z => decide (z ∈ fw) && decide (z ∈ mn)
    have lc := fl fun z => decide (z ∈ fw) && decide (z ∈ mn)
    generalize ev.filter (fun z => decide (z ∈ fw) && decide (z ∈ mn)) = com at mCom hb2 nc lc
    have nr := ndf fun z => decide (z ∈ fw) && !decide (z ∈ mn)
    have lr := fl fun z => decide (z ∈ fw) && !decide (z ∈ mn)
    have ar : ∀ z ∈ ev.filter (fun z => decide (z ∈ fw) && !decide (z ∈ mn)), Asc z := fun z hz => (W.pt z (List.mem_filter.mp hz).1).a
    generalize ev.filter (fun z => decide (z ∈ fw) && !decide (z ∈ mn)) = rest at mRest hb3 nr lr ar
    -- one | second, one & second
    refine ⟨_, rfl, _, rfl, bin_reads W3.N W3.M (by omega) fun x us H4 X s4 mem le => ?_⟩
    refine ⟨_, rfl, _, rfl, x, p1, e, us, both, ev, rfl, X, s4 _ _ hb1, s4 _ _ W3.he, nb.1, by omega, by omega, fun z => (mem z).trans (mBoth z), pz, fun H5 s5 => ⟨_, rfl, iteF ?_⟩⟩
    have S5 := s4.trans s5
    have W5 := W3.same S5
    refine ⟨_, rfl, _, rfl, bin_reads W5.N W5.M (by omega) fun x us H6 X s6 mem le => ?_⟩
    have S6 := S5.trans s6
    refine ⟨_, rfl, _, rfl, x, p2, e, us, com, ev, rfl, X, S6 _ _ hb2, S6 _ _ W3.he, nc, by omega, by omega, fun z => (mem z).trans (mCom z), pz, fun H7 s7 => ⟨_, rfl, iteF ?_⟩⟩
    have S7 := S6.trans s7
    have W7 := W3.same S7
    -- one - second, gathered
    refine ⟨_, rfl, _, rfl, bin_reads W7.N W7.M (by omega) fun x us H8 X s8 mem le => ?_⟩
    have S8 := S7.trans s8
    refine ⟨_, rfl, _, rfl, x, p3, e, us, rest, ev, rfl, X, S8 _ _ hb3, S8 _ _ W3.he, nr, by omega, by omega, fun z => (mem z).trans (mRest z), pz, fun H9 s9 => ⟨_, rfl, iteF ?_⟩⟩
    have S9 := S8.trans s9
    have W9 := W3.same S9
    have efl : ([(a, ys), (b, zs)] : List (Addr × List Str)).flatMap (·.2) = ys ++ zs := by simp
    refine ⟨rfl, _, rfl, _, rfl, [(a, ys), (b, zs)], rfl, (by show 2 ≤ 1000; decide), ?_, by rw [efl, List.length_append]; omega, fun x us H10 X s10 mem le => ?_⟩
    · intro p hp
      rcases List.mem_cons.mp hp with rfl | hp
      · exact W9.N
      · rw [List.mem_singleton.mp hp]; exact W9.M
    rw [efl] at mem
    have S10 := S9.trans s10
    refine ⟨_, rfl, _, rfl, x, p1, e, us, both, ev, rfl, X, S10 _ _ hb1, S10 _ _ W3.he, nb.1, by omega, by omega, fun z => ?_, pz, fun H11 s11 => ⟨_, rfl, iteF ?_⟩⟩
    · rw [mem, ← mBoth, List.mem_append]; exact Iff.rfl
    have S11 := S10.trans s11
    have W11 := W3.same S11
    -- told
    obtain ⟨dx, t, h1, ht⟩ := W11.N.at_
    refine ⟨_, rfl, a, dx, _, rfl, h1, rfl, _, rfl, a, b, ys, zs, rfl, W11.N, W11.M, by omega, fun H12 s12 => ?_⟩
    have W12 := W11.same s12
    refine ⟨_, rfl, a, dx, _, rfl, s12 _ _ h1, rfl, _, rfl, _, rfl, bin_reads W12.N W12.M (by omega) fun x1 us1 H13 X1 s13 mem1 le1 => ?_⟩
    have W13 := W12.same s13
    refine ⟨a, x1, ys, us1, rfl, W13.N, X1, by omega, fun H14 s14 => ?_⟩
    have W14 := W13.same s14
    refine ⟨_, rfl, _, rfl, bin_reads W14.N W14.M (by omega) fun x2 us2 H15 X2 s15 mem2 le2 => ?_⟩
    have W15 := W14.same s15
    obtain ⟨dx2, t2, h2, ht2⟩ := X2.at_
    refine ⟨x2, dx2, _, rfl, h2, rfl, _, rfl, x2, b, us2, zs, rfl, X2, W15.M, by omega, fun H16 s16 => ?_⟩
    refine ⟨(by show 3 ≤ sizeLine; decide), fun p4 n4 => ?_⟩
    have S16 := (((S11.trans s12).trans s13).trans s14).trans (s15.trans s16)
    have eR : ∀ {A : Prop} [Decidable A], (A ↔ rest = []) → decide A = decide (rest = []) := fun {A} _ h => decide_eq_decide.mpr h
    have no : rest = [] ↔ ∀ z ∈ ys, z ∈ zs := by
      rw [List.eq_nil_iff_forall_not_mem]
      refine ⟨fun h z hz => ?_, fun h z hz => ?_⟩
      · exact Decidable.byContradiction fun q => h z ((mRest z).mp ⟨hz, q⟩)
      · exact ((mRest z).mpr hz).2 (h z ((mRest z).mpr hz).1)
    have b1 : decide (∀ z ∈ ys, z ∈ zs) = decide (rest = []) := decide_eq_decide.mpr no.symm
    have b2 : decide (∀ z ∈ ys, z ∈ us1) = true := decide_eq_true fun z hz => (mem1 z).mpr (.inl hz)
    have b3 : decide (∀ z ∈ us2, z ∈ zs) = decide (rest = []) := by
      refine decide_eq_decide.mpr ⟨fun h => ?_, fun h z hz => ?_⟩
      · rw [List.eq_nil_iff_forall_not_mem]
        intro z hz
        have q := (mRest z).mpr hz
        exact q.2 (h z ((mem2 z).mpr q))
      · exact no.mp h z ((mem2 z).mp hz).1
    rw [b1, b2, b3]
    have s17 := same_new (o := .lst [.bl (decide (rest = [])), .bl true, .bl (decide (rest = []))]) n4
    have hp4 : (upd H16 p4 (.lst [.bl (decide (rest = [])), .bl true, .bl (decide (rest = []))])) p4 = some (.lst [.bl (decide (rest = [])), .bl true, .bl (decide (rest = []))]) := upd_same
    have hr3 := s17 _ _ (S16 _ _ hb3)
    generalize upd H16 p4 (.lst [.bl (decide (rest = [])), .bl true, .bl (decide (rest = []))]) = H17 at s17 hp4 hr3
    have dpL : ∀ {H : Hp} {q : Addr}, H q = some (.lst [.bl (decide (rest = [])), .bl true, .bl (decide (rest = []))]) → Dp K H (.ref q) (.list [.bool (decide (rest = [])), .bool true, .bool (decide (rest = []))]) :=
      fun h => .lst (.inl (.inl h)) (.cons (.bl _) (.cons (.bl _) (.cons (.bl _) .nil)))
    have dz : (PyData.list [.bool (decide (rest = [])), .bool true, .bool (decide (rest = []))]).depth ≤ 64 := by simp [PyData.depth, PyData.depthAll]
    have hz := shown3 (decide (rest = [])) true (decide (rest = []))
    have ev0 : PyData.eqv (.list (rest.map PyData.str)) (.list []) = decide (rest = []) := eqv_lists rest []
    refine ⟨_, rfl, p4, _, rfl, dpL hp4, rfl, rfl, dz, hz, ?_⟩
    refine ⟨_, rfl, (by show 0 ≤ sizeLine; decide), fun p5 n5 => ?_⟩
    have s18 := same_new (o := .lst []) n5
    refine ⟨_, _, .lst (.inl (.inl (s18 _ _ hr3))) (dp_strs rest), .lst (.inl (.inl upd_same)) .nil, shaped_strs _ ar, rfl, ?_⟩
    refine ⟨_, rfl, (by show 0 ≤ sizeLine; decide), fun p6 n6 => ?_⟩
    have s19 := same_new (o := .lst []) n6
    refine ⟨_, _, .lst (.inl (.inl (s19 _ _ (s18 _ _ hr3)))) (dp_strs rest), .lst (.inl (.inl upd_same)) .nil, shaped_strs _ ar, rfl, ?_⟩
    rw [ev0]
    refine ⟨(by show 3 ≤ sizeLine; decide), fun p7 n7 => ?_⟩
    have s20 := same_new (o := .lst [.bl (decide (rest = [])), .bl true, .bl (decide (rest = []))]) n7
    refine ⟨p7, _, rfl, dpL upd_same, rfl, rfl, dz, hz, rfl, ?_⟩
    rw [decide_eq_true rfl]
    exact k _ ((((S3.trans S16).trans s17).trans (s18.trans s19)).trans s20)
end
end Sn

/-! ## law_k04: the law -/
namespace Sn
open PySem PySem.Spec PyProof.Rows L2 TL
/-- the paths made of six names -/
def pathAt (l : List Str) (k : Nat) : Str := l.getD k "" ++ "." ++ l.getD (5 - k) ""
theorem gD {l : List Str} {k : Nat} (h : k < l.length) : l.getD k "" = l[k] := by
  rw [List.getD_eq_getElem?_getD, List.getElem?_eq_getElem h]; rfl
theorem get_nm {l : List Str} {k : Nat} (h : k < l.length) : (l.map V.str)[k]? = some (.str (l.getD k "")) := by
  rw [List.getElem?_map, List.getElem?_eq_getElem h, gD h]; rfl
theorem split_two {a b : Str} (ha : isN a = true) (hb : isN b = true) : Txt.split (a ++ "." ++ b) dotS = [a, b] := by
  have na : 46 ∉ tl a := fun h => dot_no (isN_sgn ha _ h)
  have nb : 46 ∉ tl b := fun h => dot_no (isN_sgn hb _ h)
  have e : tl (a ++ "." ++ b) = tl a ++ 46 :: tl b := by
    rw [tl_append, tl_append, show tl ("." : Str) = [46] by decide +kernel, List.append_assoc]; rfl
  apply map_tl_inj
  rw [split_one e na, spl_last1 (s := 46) (S := []) (p := tl b) (acc := []) nb]; rfl
theorem getD_mem {l : List Str} {k : Nat} (h : k < l.length) : l.getD k "" ∈ l := by
  rw [gD h]
  exact List.getElem_mem h
theorem paths_nd {l : List Str} (hl : l.length = 6) (nd : l.Nodup) (hN : ∀ z ∈ l, isN z = true) : ((List.range 6).map (pathAt l)).Nodup := by
  have e : (((List.range 6).map (pathAt l)).map fun z => (Txt.split z dotS).head?) = l.map some := by
    rw [List.map_map]
    refine List.ext_getElem (by rw [List.length_map, List.length_map, List.length_range, hl]) fun i h1 h2 => ?_
    rw [List.length_map, List.length_range] at h1
    rw [List.getElem_map, List.getElem_map, List.getElem_range]
    have hi : i < l.length := by omega
    have hj : 5 - i < l.length := by omega
    show (Txt.split (pathAt l i) dotS).head? = _
    unfold pathAt
    rw [split_two (hN _ (getD_mem hi)) (hN _ (getD_mem hj)), gD hi]; rfl
  have h2 : (l.map some).Nodup := List.Pairwise.map _ (fun a b ne q => ne (Option.some.inj q)) nd
  rw [← e] at h2
  exact List.Pairwise.of_map _ (fun a b ne q => ne (q ▸ rfl)) h2
theorem paths_pt {l : List Str} (hl : l.length = 6) (hN : ∀ z ∈ l, isN z = true) : ∀ z ∈ (List.range 6).map (pathAt l), Pth z := by
  intro z hz
  obtain ⟨k, hk, rfl⟩ := List.mem_map.mp hz
  have hk := List.mem_range.mp hk
  exact pth_of (hN _ (getD_mem (by omega))) (hN _ (getD_mem (by omega)))
/-- [z for z in ev if p z], where the test makes new objects -/
theorem lc_filS {K : PySem.W.Frag} {a D : Addr} {ev : List Str} {i : Nat} {vs : List Nat} {tt : TT} {σ : L2.St} {H : Hp} {Qd : Hp → Prop} (p : Str → Bool) (hl : ev.length ≤ 1000) (he : H a = some (.lst (ev.map V.str))) (hD : H D = none)
    (hi : ∀ v, ((wipe σ vs).set i v)[i]? = some v) (hw : ∀ v, wipe ((wipe σ vs).set i v) vs = wipe σ vs)
    (ht : ∀ z ∈ ev, ∀ (H1 : Hp) (R : Bool → Hp → Prop), Same H H1 → (∀ H2, Same H1 H2 → R (p z) H2) → tt ((wipe σ vs).set i (some (.str z))) H1 R)
    (hd : ∀ H1, Same H H1 → H1 D = some (.lst ((ev.filter p).map V.str)) → Qd H1) :
    ∃ W : Nat → Nat → Hp → Prop, (∃ m, W 0 m (upd H D (.lst []))) ∧ ∀ j m H1, W j m H1 →
      ((Itl K a).stop j H1 ∧ Qd H1) ∨ ((Itl K a).go j H1 ∧ ∃ Nx : Hp → Prop, (∀ H', Nx H' → ∃ m', m' < m ∧ W (j + 1) m' H') ∧ ∀ x H', (Itl K a).yld j H1 x H' → gName i x (wipe σ vs) H' fun σ2 H2 => wipe σ2 vs = wipe σ vs ∧ tt σ2 H2 fun b H3 =>
        if b = true then tVar i σ2 H3 fun y H4 => ∃ acc, H4 D = some (.lst acc) ∧ acc.length < sizeLine ∧ Nx (upd H4 D (.lst (acc ++ [y]))) else Nx H3) := by
  refine lc_list (K := K) (a := a) (xs := ev.map V.str) (fun j H1 => Same H H1 ∧ H1 D = some (.lst (((ev.take j).filter p).map V.str))) ⟨same_new hD, upd_same⟩ (fun j H1 _ q => .inl (.inl (q.1 _ _ he))) ?_ ?_
  · rintro j x H1 hx ⟨s1, hD1⟩
    obtain ⟨z, hz, rfl⟩ := get_strs hx
    refine ⟨hw _, ht z (List.mem_of_getElem? hz) _ _ s1 fun H2 s2 => ?_⟩
    by_cases e : p z = true
    · rw [if_pos e]
      refine ⟨_, hi _, _, s2 _ _ hD1, small1000 ?_, same_in (s1.trans s2) hD, ?_⟩
      · rw [List.length_map]
        have := fl_len (l := ev) j p
        omega
      · rw [upd_same, fl_take _ hz, if_pos e, List.map_append]; rfl
    · rw [if_neg e, fl_take _ hz, if_neg e, List.append_nil]
      exact ⟨s1.trans s2, s2 _ _ hD1⟩
  · rintro H1 ⟨s1, hD1⟩
    rw [List.length_map, List.take_length] at hD1
    exact hd H1 s1 hD1
/-- a list of members -/
structure Mem (H : Hp) (d g M : Addr) (ev : List Str) (p : Addr × List Str) : Prop where
  h : H p.1 = some (.lst (p.2.map V.str))
  nd : p.1 ≠ d
  ng : p.1 ≠ g
  nM : p.1 ≠ M
  no : p.2.Nodup
  sb : ∀ z ∈ p.2, z ∈ ev
  l4 : p.2.length ≤ 4
theorem Mem.mv {H H' : Hp} {d g M : Addr} {ev : List Str} {p : Addr × List Str} (m : Mem H d g M ev p) (v : Mv d g H H') : Mem H' d g M ev p := ⟨v _ _ m.nd m.ng m.h, m.nd, m.ng, m.nM, m.no, m.sb, m.l4⟩
theorem Mem.put {H : Hp} {d g M : Addr} {ev : List Str} {p : Addr × List Str} {o : HO} (m : Mem H d g M ev p) : Mem (upd H M o) d g M ev p := ⟨by rw [upd_ne m.nM]; exact m.h, m.nd, m.ng, m.nM, m.no, m.sb, m.l4⟩
/-- three sets, three lists of members, the list of all paths -/
structure Tri (C : Addr) (H : Hp) (S M E : Addr) (as qs : List (Addr × List Str)) (ev : List Str) : Prop where
  hS : H S = some (.lst (as.map fun p => V.ref p.1))
  hM : H M = some (.lst (qs.map fun p => V.ref p.1))
  hE : H E = some (.lst (ev.map V.str))
  nd : ev.Nodup
  le : ev.length ≤ 20
  pt : ∀ z ∈ ev, Pth z
  la : as.length = 3
  lq : qs.length = 3
  ok : ∀ (i : Nat) (p q : Addr × List Str), as[i]? = some p → qs[i]? = some q → Nm C H p.1 p.2 ∧ H q.1 = some (.lst (q.2.map V.str)) ∧ (∀ z, z ∈ p.2 ↔ z ∈ q.2) ∧ (∀ z ∈ q.2, z ∈ ev) ∧ q.2.Nodup
theorem Tri.same {C : Addr} {H H' : Hp} {S M E : Addr} {as qs : List (Addr × List Str)} {ev : List Str} (t : Tri C H S M E as qs ev) (s : Same H H') : Tri C H' S M E as qs ev :=
  ⟨s _ _ t.hS, s _ _ t.hM, s _ _ t.hE, t.nd, t.le, t.pt, t.la, t.lq, fun i p q h1 h2 => let ⟨a, b, c⟩ := t.ok i p q h1 h2; ⟨a.same s, s _ _ b, c⟩⟩
theorem Tri.at_ {C : Addr} {H : Hp} {S M E : Addr} {as qs : List (Addr × List Str)} {ev : List Str} (t : Tri C H S M E as qs ev) {i : Nat} (hi : i < 3) :
    ∃ p q, as[i]? = some p ∧ qs[i]? = some q ∧ (as.map fun p => V.ref p.1)[i]? = some (V.ref p.1) ∧ (qs.map fun p => V.ref p.1)[i]? = some (V.ref q.1) := by
  have h1 : i < as.length := by rw [t.la]; exact hi
  have h2 : i < qs.length := by rw [t.lq]; exact hi
  refine ⟨as[i], qs[i], List.getElem?_eq_getElem h1, List.getElem?_eq_getElem h2, ?_, ?_⟩
  · rw [List.getElem?_map, List.getElem?_eq_getElem h1]; rfl
  · rw [List.getElem?_map, List.getElem?_eq_getElem h2]; rfl
theorem Tri.two {C : Addr} {H : Hp} {S M E : Addr} {as qs : List (Addr × List Str)} {ev : List Str} (t : Tri C H S M E as qs ev) {i j : Nat} {p q r u : Addr × List Str}
    (h1 : as[i]? = some p) (h2 : qs[i]? = some q) (h3 : as[j]? = some r) (h4 : qs[j]? = some u) : Two C H p.1 r.1 q.1 u.1 E p.2 r.2 q.2 u.2 ev := by
  obtain ⟨a1, a2, a3, a4, a5⟩ := t.ok i p q h1 h2
  obtain ⟨b1, b2, b3, b4, b5⟩ := t.ok j r u h3 h4
  exact ⟨a1, b1, a2, b2, t.hE, t.nd, t.le, t.pt, a3, b3, a4, b4⟩
section
variable {P : Program} {w : World} {K : PySem.W.Frag} {mg : Str → Option Value} {base : Heap}
/-- the law: a list of at most 63 ints is handed in, True comes out -/
def spLaw (K : PySem.W.Frag) : Sp := fun vs H Q _ => ∃ (a : Addr) (ns : List Int), vs = [.ref a] ∧ SqL K H a (ns.map V.int) ∧ ns.length ≤ 63 ∧ ∀ H', Q (.bl true) H'
theorem ok_law (T : Txt K mg) : FnG P w K mg base CX0 8 T.f_law T.fd_law ["_law_script"] (spLaw K) := by
  refine okG T.F_law sc_law (fun vs H Q E h => ?_) (fun cdv A outer s H vs Q E hgu hr h => ?_)
  · obtain ⟨a, ns, rfl, _⟩ := h
    rfl
  · obtain ⟨a, ns, rfl, hS, hl, k⟩ := h
    refine ⟨_, (pss_cons (ps_set (i := 1) sc_law.nd rfl (Or.inr rfl) (pe_call (ok_begun T) (hr.mono (by decide)) rfl T.g_law_begun T.F_law_begun.kp T.b_law_begun .nil pass0 (pa_cons (pv 0) pa_nil)))
      (pss_cons (ps_for PassesOwn.never rfl (pi_range1 (by rfl) T.z_range (pa_cons (pe_op op_add pe_int (pe_callB (call_min2 rfl) (by rfl) T.z_min (by decide +kernel) (pa_cons (pe_callB call_len (by rfl) T.z_len (by decide +kernel) (pa_cons (pv 0) pa_nil)) (pa_cons pe_int pa_nil)))) pa_nil)) (pg_name (i := 2) sc_law.nd rfl (Or.inl rfl))
        (pss_cons (ps_set (i := 3) sc_law.nd rfl (Or.inr rfl) (pe_call (ok_names T) (hr.mono (by decide)) rfl T.g_law_names T.F_law_names.kp T.b_law_names .nil pass0 (pa_cons (pv 1) (pa_cons pe_int pa_nil))))
      (pss_cons (ps_asg (pe_tup (pa_cons (pe_lc (own := [("_law_k", 4)]) (g := gName 4) (by rfl) sc_law.nd (pi_range1 (by rfl) T.z_range (pa_cons pe_int pa_nil)) (blkOk_by (own := [("_law_k", 4)]) (N := n_law) (sc := defScope s_law) (by decide +kernel)) (fun _ _ _ _ _ => (pg_name (i := 4) sc_law.nd rfl (Or.inl rfl))) (fun _ _ _ _ _ => pts_nil) (fun _ _ _ _ _ => (pe_op op_add_str (pe_op op_add_str (pe_ix (ix_listK (K := K)) (pv 3) (pv 4) (fun _ _ => rfl)) pe_str) (pe_ix (ix_listK (K := K)) (pv 3) (pe_op op_sub pe_int (pv 4)) (fun _ _ => rfl))))) (pa_cons (pe_lst pa_nil) pa_nil))) (pg_tup rfl (pgs_cons (pg_name (i := 5) sc_law.nd rfl (Or.inr rfl)) (pgs_cons (pg_name (i := 6) sc_law.nd rfl (Or.inr rfl)) pgs_nil))))
      (pss_cons (ps_for PassesOwn.never rfl (pi_range1 (by rfl) T.z_range (pa_cons pe_int pa_nil)) (pg_name (i := 4) sc_law.nd rfl (Or.inl rfl))
        (pss_cons (ps_set (i := 8) sc_law.nd rfl (Or.inr rfl) (pe_lc (own := [("_law_j", 7)]) (g := gName 7) (by rfl) sc_law.nd (pi_range1 (by rfl) T.z_range (pa_cons (pe_call (ok_take T) (hr.mono (by decide)) rfl T.g_law_take T.F_law_take.kp T.b_law_take .nil pass0 (pa_cons (pv 1) (pa_cons pe_int pa_nil))) pa_nil)) (blkOk_by (own := [("_law_j", 7)]) (N := n_law) (sc := defScope s_law) (by decide +kernel)) (fun _ _ _ _ _ => (pg_name (i := 7) sc_law.nd rfl (Or.inl rfl))) (fun _ _ _ _ _ => pts_nil) (fun _ _ _ _ _ => (pe_call (ok_pick T) (hr.mono (by decide)) rfl T.g_law_pick T.F_law_pick.kp T.b_law_pick .nil pass0 (pa_cons (pv 1) (pa_cons (pv 5) pa_nil))))))
      (pss_one (ps_expr (pe_bm PySem.F.plainAttrs_list PySem.F.slot_list_append PySem.F.type_list_append mt_append (pv 6) (pa_cons (pe_lc (own := [("_law_path", 11)]) (g := gName 11) (by rfl) sc_law.nd (pi_list (pv 5)) (blkOk_by (own := [("_law_path", 11)]) (N := n_law) (sc := defScope s_law) (by decide +kernel)) (fun _ _ _ _ _ => (pg_name (i := 11) sc_law.nd rfl (Or.inl rfl))) (fun _ _ _ _ _ => (pts_one (pt_cmpR (op_in_seqK (K := K)) (pv 11) (pv 8) (by rfl)))) (fun _ _ _ _ _ => (pv 11))) pa_nil))))))
      (pss_cons (ps_set (i := 9) sc_law.nd rfl (Or.inr rfl) (pe_lc (own := [("_law_some", 8)]) (g := gName 8) (by rfl) sc_law.nd (pi_list (pv 6)) (blkOk_by (own := [("_law_some", 8)]) (N := n_law) (sc := defScope s_law) (by decide +kernel)) (fun _ _ _ _ _ => (pg_name (i := 8) sc_law.nd rfl (Or.inl rfl))) (fun _ _ _ _ _ => pts_nil) (fun _ _ _ _ _ => (pe_call (ok_set T) (hr.mono (by decide)) rfl T.g_law_set T.F_law_set.kp T.b_law_set .nil pass0 (pa_cons (pv 8) pa_nil)))))
      (pss_cons (ps_for PassesOwn.never rfl (pi_range1 (by rfl) T.z_range (pa_cons pe_int pa_nil)) (pg_name (i := 4) sc_law.nd rfl (Or.inl rfl))
        (pss_one (ps_for PassesOwn.never rfl (pi_range1 (by rfl) T.z_range (pa_cons pe_int pa_nil)) (pg_name (i := 7) sc_law.nd rfl (Or.inl rfl))
        (pss_one (ps_if (pt_not (pt_val (pe_callG (ok_pair T) hgu (hr.mono (by decide)) rfl T.g_law_pair_right T.F_law_pair_right.kp T.b_law_pair_right .nil pass0 (pa_cons (pe_ix (ix_listK (K := K)) (pv 9) (pv 4) (fun _ _ => rfl)) (pa_cons (pe_ix (ix_listK (K := K)) (pv 9) (pv 7) (fun _ _ => rfl)) (pa_cons (pe_ix (ix_listK (K := K)) (pv 6) (pv 4) (fun _ _ => rfl)) (pa_cons (pe_ix (ix_listK (K := K)) (pv 6) (pv 7) (fun _ _ => rfl)) (pa_cons (pv 5) pa_nil))))))))
        (pss_one (ps_ret pe_bl))
        pss_nil)))))
      (pss_cons (ps_setLc (i := 10) (own := [("_law_path", 11)]) (g := gName 11) rfl sc_law.nd rfl rfl (sw_true rfl rfl rfl (by decide +kernel)) (pi_list (pv 5)) (blkOk_by (own := [("_law_path", 11)]) (N := n_law) (sc := defScope s_law) (by decide +kernel)) (fun _ _ _ _ _ => (pg_name (i := 11) sc_law.nd rfl (Or.inl rfl))) (fun _ _ _ _ _ => (pts_one (pt_cmpR (op_in_seqK (K := K)) (pv 11) (pe_op op_cat (pe_op op_cat (pe_ix (ix_listK (K := K)) (pv 6) pe_int (fun _ _ => rfl)) (pe_ix (ix_listK (K := K)) (pv 6) pe_int (fun _ _ => rfl))) (pe_ix (ix_listK (K := K)) (pv 6) pe_int (fun _ _ => rfl))) (by rfl)))) (fun _ _ _ _ _ => (pv 11)))
      (pss_cons (ps_if (pt_not (pt_val (pe_call (ok_is T) (hr.mono (by decide)) rfl T.g_law_is T.F_law_is.kp T.b_law_is .nil pass0 (pa_cons (ClX.pe_cmeth (pe_glob (v := .ref T.C_Names) rfl T.gC_Names rfl) T.cr_Names_gathered T.cm_Names_gathered (ok_gathered T) (hr.mono (by decide)) pass0 (pa_cons (pe_ix (ix_listK (K := K)) (pv 9) pe_int (fun _ _ => rfl)) (pa_cons (pe_ix (ix_listK (K := K)) (pv 9) pe_int (fun _ _ => rfl)) (pa_cons (pe_ix (ix_listK (K := K)) (pv 9) pe_int (fun _ _ => rfl)) pa_nil)))) (pa_cons (pv 10) (pa_cons (pv 5) pa_nil))))))
        (pss_one (ps_ret pe_bl))
        pss_nil)
      (pss_cons (ps_if (PW.pt (pw_or (pt_not (pt_val (pe_call (ok_is T) (hr.mono (by decide)) rfl T.g_law_is T.F_law_is.kp T.b_law_is .nil pass0 (pa_cons (pe_cmeth0 (pe_glob (v := .ref T.C_Names) rfl T.gC_Names rfl) T.cr_Names_gathered T.cm_Names_gathered (ok_gathered T) (hr.mono (by decide)) pass0) (pa_cons (pe_lst pa_nil) (pa_cons (pv 5) pa_nil)))))) (pw_or1 (pt_not (pt_val (pe_call (ok_is T) (hr.mono (by decide)) rfl T.g_law_is T.F_law_is.kp T.b_law_is .nil pass0 (pa_cons (ClX.pe_cmeth (pe_glob (v := .ref T.C_Names) rfl T.gC_Names rfl) T.cr_Names_gathered T.cm_Names_gathered (ok_gathered T) (hr.mono (by decide)) pass0 (pa_cons (pe_ix (ix_listK (K := K)) (pv 9) pe_int (fun _ _ => rfl)) pa_nil)) (pa_cons (pe_ix (ix_listK (K := K)) (pv 6) pe_int (fun _ _ => rfl)) (pa_cons (pv 5) pa_nil)))))))))
        (pss_one (ps_ret pe_bl))
        pss_nil)
      (pss_cons (ps_if (PW.pt (pw_or (pt_cmpR (own_ne (ok_eqN T) (hr.mono (by decide)) T.m_Names_eq.at_ T.ne_Names T.im_Names T.m_Names_eq.fn T.b_Names_eq pass0) (pe_op (own_bin (op := .BitOr) (ok_or T) (hr.mono (by decide)) T.sf_Names T.m_Names_or.at_ T.m_Names_or.fn T.b_Names_or pass0) (pe_ix (ix_listK (K := K)) (pv 9) pe_int (fun _ _ => rfl)) (pe_ix (ix_listK (K := K)) (pv 9) pe_int (fun _ _ => rfl))) (pe_op (own_bin (op := .BitOr) (ok_or T) (hr.mono (by decide)) T.sf_Names T.m_Names_or.at_ T.m_Names_or.fn T.b_Names_or pass0) (pe_ix (ix_listK (K := K)) (pv 9) pe_int (fun _ _ => rfl)) (pe_ix (ix_listK (K := K)) (pv 9) pe_int (fun _ _ => rfl))) (nomark _)) (pw_or1 (pt_cmpR (own_ne (ok_eqN T) (hr.mono (by decide)) T.m_Names_eq.at_ T.ne_Names T.im_Names T.m_Names_eq.fn T.b_Names_eq pass0) (pe_op (own_bin (op := .BitOr) (ok_or T) (hr.mono (by decide)) T.sf_Names T.m_Names_or.at_ T.m_Names_or.fn T.b_Names_or pass0) (pe_op (own_bin (op := .Sub) (ok_sub T) (hr.mono (by decide)) T.sf_Names T.m_Names_sub.at_ T.m_Names_sub.fn T.b_Names_sub pass0) (pe_ix (ix_listK (K := K)) (pv 9) pe_int (fun _ _ => rfl)) (pe_ix (ix_listK (K := K)) (pv 9) pe_int (fun _ _ => rfl))) (pe_op (own_bin (op := .BitAnd) (ok_and T) (hr.mono (by decide)) T.sf_Names T.m_Names_and.at_ T.m_Names_and.fn T.b_Names_and pass0) (pe_ix (ix_listK (K := K)) (pv 9) pe_int (fun _ _ => rfl)) (pe_ix (ix_listK (K := K)) (pv 9) pe_int (fun _ _ => rfl)))) (pe_ix (ix_listK (K := K)) (pv 9) pe_int (fun _ _ => rfl)) (nomark _)))))
        (pss_one (ps_ret pe_bl))
        pss_nil)
      (pss_one (ps_if (pt_cmpR (op_neDK (K := K) hr.units) (pe_lc (own := [("_law_k", 4)]) (g := gName 4) (by rfl) sc_law.nd (pi_range1 (by rfl) T.z_range (pa_cons pe_int pa_nil)) (blkOk_by (own := [("_law_k", 4)]) (N := n_law) (sc := defScope s_law) (by decide +kernel)) (fun _ _ _ _ _ => (pg_name (i := 4) sc_law.nd rfl (Or.inl rfl))) (fun _ _ _ _ _ => (pts_one (pt_not (pt_val (pe_call (ok_is T) (hr.mono (by decide)) rfl T.g_law_is T.F_law_is.kp T.b_law_is .nil pass0 (pa_cons (pe_ix (ix_listK (K := K)) (pv 9) (pv 4) (fun _ _ => rfl)) (pa_cons (pe_ix (ix_listK (K := K)) (pv 6) (pv 4) (fun _ _ => rfl)) (pa_cons (pv 5) pa_nil)))))))) (fun _ _ _ _ _ => (pv 4))) (pe_lst pa_nil) (nomark _))
        (pss_one (ps_ret pe_bl))
        pss_nil))))))))))))
      (pss_one (ps_ret pe_bl)))), ?_⟩
    refine ⟨_, rfl, a, ns, rfl, hS, by omega, fun d g c H1 nd ng nc D1 s1 => ?_⟩
    refine ⟨_, rfl, _, ns.length, rfl, .inl ⟨_, s1.seq hS, by rw [List.length_map]⟩, _, _, rfl, ?_⟩
    generalize en : (if (20 : Int) < (ns.length : Int) then (20 : Int) else (ns.length : Int)) = mn
    have hmn : 0 ≤ mn ∧ mn ≤ 20 := by rw [← en]; split <;> omega
    refine ⟨_, _, rfl, rfl, _, rfl, by omega, by omega, ?_⟩
    refine for_range (lo := 0) (n := (4 + mn).toNat) (fun i σ H2 => ∃ (v2 v3 v4 v5 v6 v7 v8 v9 v10 v11 : Option V), σ = [some (.ref a), some (.ref d), v2, v3, v4, v5, v6, v7, v8, v9, v10, v11] ∧ Dr H2 d g c (300 * i))
      ⟨none, none, none, none, none, none, none, none, none, none, rfl, D1⟩ ?_ ?_
    · rintro i σ H2 hi ⟨v2, v3, v4, v5, v6, v7, v8, v9, v10, v11, rfl, D2⟩
      refine ⟨_, rfl, d, g, c, _, 6, rfl, D2, by omega, by omega, fun q l H3 hq0 l6 nd6 hN hq D3 mv3 => ?_⟩
      have nq := dr_new D2 hq0
      have n8 : ∀ k, k < 6 → (l.getD k "").length ≤ 8 := fun k hk => isN_len (hN _ (getD_mem (by omega)))
      -- every, members
      refine ⟨_, rfl, by decide, by decide, fun E hE => ?_⟩
      refine lc_range (lo := 0) (n := 6) (fun j H4 => H4 = upd H3 E (.lst (((List.range j).map (pathAt l)).map V.str))) rfl ?_ ?_
      · rintro j H4 hj rfl
        have hq4 := same_new (o := .lst (((List.range j).map (pathAt l)).map V.str)) hE _ _ hq
        refine ⟨rfl, ?_⟩
        refine ⟨_, rfl, _, rfl, q, _, _, .str (l.getD j ""), rfl, rfl, .inl (.inl hq4), ?_, ?_⟩
        · rw [Int.zero_add]
          exact atI_nat (get_nm (by omega))
        have a1 := n8 j hj
        have a2 := n8 (5 - j) (by omega)
        have e1 : ("." : Str).length = 1 := by decide +kernel
        refine ⟨_, _, rfl, rfl, by rw [e1, sizeLine_eq]; omega, _, rfl, _, rfl, _, _, rfl, rfl, q, _, _, .str (l.getD (5 - j) ""), rfl, rfl, .inl (.inl hq4), ?_, ?_⟩
        · rw [show (5 : Int) - (0 + (j : Int)) = ((5 - j : Nat) : Int) by omega]
          exact atI_nat (get_nm (by omega))
        refine ⟨_, _, rfl, rfl, ?_, _, upd_same, by rw [List.length_map, List.length_map, List.length_range, sizeLine_eq]; omega, ?_⟩
        · have e2 : (l.getD j "" ++ ("." : Str)).length = (l.getD j "").length + 1 := by rw [len_tl, tl_append, List.length_append, ← len_tl, ← len_tl, e1]
          rw [e2, sizeLine_eq]; omega
        · rw [upd_upd, List.range_succ, List.map_append, List.map_append]; rfl
      rintro H4 rfl
      have nE := dr_new D3 hE
      generalize eev : (List.range 6).map (pathAt l) = ev
      have le6 : ev.length = 6 := by rw [← eev, List.length_map, List.length_range]
      have ndE : ev.Nodup := by rw [← eev]; exact paths_nd l6 nd6 hN
      have ptE : ∀ z ∈ ev, Pth z := by rw [← eev]; exact paths_pt l6 hN
      refine ⟨(by show 0 ≤ sizeLine; decide), fun M hM => ⟨(by show 2 ≤ sizeLine; decide), fun t0 ht0 => ?_⟩⟩
      have sE := same_new (o := .lst (ev.map V.str)) hE
      have sM := same_new (o := .lst []) hM
      have s0 := same_new (o := .tup [.ref E, .ref M]) ht0
      have nM := dr_new (D3.same sE) hM
      have D5 := ((D3.same sE).same sM).same s0
      have hE5 := s0 _ _ (sM _ _ (upd_same (H := H3) (a := E) (o := .lst (ev.map V.str))))
      have hM5 := s0 _ _ (upd_same (H := upd H3 E (.lst (ev.map V.str))) (a := M) (o := .lst []))
      refine ⟨t0, _, rfl, .inl (.inl upd_same), rfl, _, _, rfl, _, _, rfl, rfl, ?_⟩
      have hE5' : (upd H3 E (.lst (ev.map V.str))) E = some (.lst (ev.map V.str)) := upd_same
      generalize upd (upd (upd H3 E (.lst (ev.map V.str))) M (.lst [])) t0 (.tup [.ref E, .ref M]) = H5 at D5 hE5 hM5
      -- the members of three sets
      refine ⟨_, rfl, by decide, by decide, ?_⟩
      refine for_range (lo := 0) (n := 3) (fun j σ H6 => ∃ (qs : List (Addr × List Str)) (v4 v7 v8 v11 : Option V), σ = [some (.ref a), some (.ref d), some (.int (0 + (i : Int))), some (.ref q), v4, some (.ref E), some (.ref M), v7, v8, v9, v10, v11] ∧
          qs.length = j ∧ H6 M = some (.lst (qs.map fun p => V.ref p.1)) ∧ H6 E = some (.lst (ev.map V.str)) ∧ (∀ p ∈ qs, Mem H6 d g M ev p) ∧ Dr H6 d g c (300 * i + 240 + 10 * j))
        ⟨[], _, _, _, _, rfl, rfl, hM5, hE5, (fun p hp => nomatch hp), D5⟩ ?_ ?_
      · rintro j σ H6 hj ⟨qs, v4, v7, v8, v11, rfl, lq, hM6, hE6, hqs, D6⟩
        refine ⟨_, rfl, d, g, c, _, _, rfl, D6, by omega, by decide, by decide, fun r H7 r0 r1 D7 mv7 => ?_⟩
        obtain ⟨n, rfl⟩ := Int.eq_ofNat_of_zero_le r0
        refine ⟨_, rfl, by omega, by omega, fun L hL => ?_⟩
        have nL := dr_new D7 hL
        have hM7 := mv7 _ _ nM.1 nM.2.1 hM6
        have hE7 := mv7 _ _ nE.1 nE.2.1 hE6
        refine lc_range (lo := 0) (n := n) (fun jj H8 => ∃ ps : List Str, ps.length = jj ∧ (∀ z ∈ ps, z ∈ ev) ∧ H8 L = some (.lst (ps.map V.str)) ∧ Dr H8 d g c (300 * i + 240 + 10 * j + 1 + jj) ∧ Mv d g H7 H8)
          ⟨[], rfl, (fun z hz => nomatch hz), upd_same, D7.same (same_new hL), Mv.same (same_new hL)⟩ ?_ ?_
        · rintro jj H8 hjj ⟨ps, lp, hps, hL8, D8, mv8⟩
          refine ⟨rfl, ?_⟩
          refine ⟨_, rfl, _, rfl, d, g, c, _, D8, by omega, .inr ⟨E, _, rfl, mv8 _ _ nE.1 nE.2.1 hE7, nE.2.1, by rw [List.length_map]; omega, by rw [List.length_map]; omega, fun x H9 hx D9 mv9 => ?_⟩⟩
          obtain ⟨z, hz, rfl⟩ := List.mem_map.mp hx
          refine ⟨_, mv9 _ _ nL.1 nL.2.1 hL8, small1000 (by rw [List.length_map]; omega), ps ++ [z], by rw [List.length_append, lp]; rfl, ?_, ?_, D9.upd nL, ?_⟩
          · intro y hy
            rcases List.mem_append.mp hy with hy | hy
            · exact hps y hy
            · rw [List.mem_singleton.mp hy]; exact hz
          · rw [upd_same, List.map_append]; rfl
          · exact (mv8.trans mv9).put hL
        · rintro H8 ⟨ps, lp, hps, hL8, D8, mv8⟩
          have hM8 := mv8 _ _ nM.1 nM.2.1 hM7
          have hE8 := mv8 _ _ nE.1 nE.2.1 hE7
          refine ⟨_, rfl, .inl ⟨rfl, _, .inl (.inl hM8)⟩, _, rfl, E, rfl, ⟨_, .inl (.inl hE8)⟩, fun F hF => ?_⟩
          refine lc_fil (K := K) (ev := ev) (fun z => decide (z ∈ ps)) (by omega) hE8 hF (fun _ => rfl) (fun _ => rfl) (fun z hz acc R h => ?_) ?_
          · exact ⟨_, rfl, _, rfl, in_reads (same_new (o := .lst acc) hF _ _ hL8) ⟨_, rfl, h⟩⟩
          have sF := same_new (o := .lst ((ev.filter fun z => decide (z ∈ ps)).map V.str)) hF
          have nF := dr_new D8 hF
          have nFM : F ≠ M := (ne_of_none hM8 hF).symm
          have nd4 : (ev.filter fun z => decide (z ∈ ps)).Nodup := ndE.filter _
          have le4 : (ev.filter fun z => decide (z ∈ ps)).length ≤ ps.length := nodup_len _ _ nd4 fun z hz => by simpa using (List.mem_filter.mp hz).2
          have le44 : (ev.filter fun z => decide (z ∈ ps)).length ≤ 4 := by omega
          refine ⟨M, _, _, rfl, rfl, sF _ _ hM8, small1000 (by rw [List.length_map]; omega), ?_⟩
          refine ⟨qs ++ [(F, ev.filter fun z => decide (z ∈ ps))], _, _, _, _, rfl, by rw [List.length_append, lq]; rfl, by rw [upd_same, List.map_append]; rfl, by rw [upd_ne (ne_of_none hE5' hM)]; exact sF _ _ hE8, ?_, ?_⟩
          · intro p hp
            rcases List.mem_append.mp hp with hp | hp
            · exact (((hqs p hp).mv (mv7.trans mv8)).mv (Mv.same sF)).put
            · rw [List.mem_singleton.mp hp]
              exact (⟨upd_same, nF.1, nF.2.1, nFM, nd4, fun z hz => (List.mem_filter.mp hz).1, le44⟩ : Mem _ d g M ev (F, ev.filter fun z => decide (z ∈ ps))).put
          · exact ((D8.same sF).upd nM).mono (by omega)
      rintro σ H6 ⟨qs, v4, v7, v8, v11, rfl, lq, hM6, hE6, hqs, D6⟩
      -- the sets
      refine ⟨_, rfl, M, rfl, ⟨_, .inl (.inl hM6)⟩, fun S hS0 => ?_⟩
      refine lc_list (K := K) (a := M) (xs := qs.map fun p => V.ref p.1) (fun j H7 => ∃ as : List (Addr × List Str), as.length = j ∧ Same H6 H7 ∧ H7 S = some (.lst (as.map fun p => V.ref p.1)) ∧
          ∀ (jj : Nat) (p r : Addr × List Str), as[jj]? = some p → qs[jj]? = some r → Nm T.C_Names H7 p.1 p.2 ∧ ∀ z, z ∈ p.2 ↔ z ∈ r.2)
        ⟨[], rfl, same_new hS0, upd_same, fun jj p r h => by cases h⟩ (fun j H7 _ ⟨as, _, s7, _⟩ => .inl (.inl (s7 _ _ hM6))) ?_ ?_
      · rintro j x H7 hx ⟨as, la, s7, hS7, ok7⟩
        obtain ⟨r, hr0, rfl⟩ : ∃ r, qs[j]? = some r ∧ x = V.ref r.1 := by
          rw [List.getElem?_map] at hx
          cases e : qs[j]? with
          | none => rw [e] at hx; cases hx
          | some y => rw [e] at hx; exact ⟨y, rfl, (Option.some.inj hx).symm⟩
        have hm := hqs r (List.mem_of_getElem? hr0)
        have hj3 : j < 3 := by
          have := (List.getElem?_eq_some_iff.mp hr0).1
          omega
        refine ⟨rfl, ?_⟩
        refine ⟨_, rfl, r.1, r.2, rfl, s7 _ _ hm.h, hm.l4, fun z hz => ptE z (hm.sb z hz), fun x ys H8 X s8 mem => ?_⟩
        refine ⟨_, s8 _ _ hS7, small1000 (by rw [List.length_map]; omega), as ++ [(x, ys)], by rw [List.length_append, la]; rfl, same_in (s7.trans s8) hS0, by rw [upd_same, List.map_append]; rfl, ?_⟩
        have put : ∀ {p : Addr × List Str}, Nm T.C_Names H8 p.1 p.2 → Nm T.C_Names (upd H8 S (.lst (as.map (fun p => V.ref p.1) ++ [V.ref x]))) p.1 p.2 := fun {p} N => by
          obtain ⟨⟨dx, t, h1, ht⟩, rr, pp⟩ := N
          have e1 : p.1 ≠ S := fun e => by rw [e, s8 _ _ hS7] at h1; cases h1
          have e2 : t ≠ S := fun e => by rw [e, s8 _ _ hS7] at ht; cases ht
          exact ⟨⟨dx, t, by rw [upd_ne e1]; exact h1, by rw [upd_ne e2]; exact ht⟩, rr, pp⟩
        intro jj p r2 h1 h2
        by_cases hjj : jj < as.length
        · rw [List.getElem?_append_left hjj] at h1
          obtain ⟨N, mm⟩ := ok7 jj p r2 h1 h2
          exact ⟨put (N.same s8), mm⟩
        · have hlt := (List.getElem?_eq_some_iff.mp h1).1
          rw [List.length_append] at hlt
          have ej : jj = as.length := by
            have : ([(x, ys)] : List (Addr × List Str)).length = 1 := rfl
            omega
          subst ej
          rw [List.getElem?_append_right (Nat.le_refl _), Nat.sub_self] at h1
          cases h1
          rw [la, hr0] at h2
          cases h2
          exact ⟨put (p := (x, ys)) X, mem⟩
      rintro H7 ⟨as, la, s7, hS7, ok7⟩
      rw [List.length_map, lq] at la
      have R7 : Tri T.C_Names H7 S M E as qs ev := ⟨hS7, s7 _ _ hM6, s7 _ _ hE6, ndE, by omega, ptE, la, lq, fun jj p r h1 h2 =>
        let m := hqs r (List.mem_of_getElem? h2)
        ⟨(ok7 jj p r h1 h2).1, s7 _ _ m.h, (ok7 jj p r h1 h2).2, m.sb, m.no⟩⟩
      -- all pairs
      refine ⟨_, rfl, by decide, by decide, ?_⟩
      refine for_range (lo := 0) (n := 3) (fun j σ H8 => ∃ (v4 v7 v8 v11 : Option V), σ = [some (.ref a), some (.ref d), some (.int (0 + (i : Int))), some (.ref q), v4, some (.ref E), some (.ref M), v7, v8, some (.ref S), v10, v11] ∧ Same H7 H8)
        ⟨_, _, _, _, rfl, Same.refl _⟩ ?_ ?_
      · rintro j σ H8 hj ⟨v4, v7, v8, v11, rfl, s8⟩
        refine ⟨_, rfl, by decide, by decide, ?_⟩
        refine for_range (lo := 0) (n := 3) (fun jj σ H9 => ∃ (v7 v8 v11 : Option V), σ = [some (.ref a), some (.ref d), some (.int (0 + (i : Int))), some (.ref q), some (.int (0 + (j : Int))), some (.ref E), some (.ref M), v7, v8, some (.ref S), v10, v11] ∧ Same H7 H9)
          ⟨_, _, _, rfl, s8⟩ ?_ ?_
        · rintro jj σ H9 hjj ⟨v7, v8, v11, rfl, s9⟩
          have R9 := R7.same s9
          obtain ⟨p1, q1, a1, b1, c1, d1⟩ := R9.at_ hj
          obtain ⟨p2, q2, a2, b2, c2, d2⟩ := R9.at_ hjj
          have ix : ∀ {xs : List V} {n : Nat} {v : V}, xs[n]? = some v → atI xs (0 + (n : Int)) = some v := fun {xs n v} h => by rw [Int.zero_add]; exact atI_nat h
          refine ⟨_, rfl, _, rfl, S, _, _, _, rfl, rfl, .inl (.inl R9.hS), ix c1, _, rfl, _, rfl, S, _, _, _, rfl, rfl, .inl (.inl R9.hS), ix c2, ?_⟩
          refine ⟨_, rfl, _, rfl, M, _, _, _, rfl, rfl, .inl (.inl R9.hM), ix d1, _, rfl, _, rfl, M, _, _, _, rfl, rfl, .inl (.inl R9.hM), ix d2, _, rfl, ?_⟩
          refine ⟨p1.1, p2.1, q1.1, q2.1, E, _, _, _, _, ev, rfl, R9.two a1 b1 a2 b2, fun H10 s10 => ⟨_, rfl, iteF ?_⟩⟩
          exact ⟨_, _, _, rfl, s9.trans s10⟩
        · rintro σ H9 ⟨v7, v8, v11, rfl, s9⟩
          exact ⟨_, _, _, _, rfl, s9⟩
      rintro σ H8 ⟨v4, v7, v8, v11, rfl, s8⟩
      have R8 := R7.same s8
      obtain ⟨p0, q0, a0, b0, c0, d0⟩ := R8.at_ (i := 0) (by decide)
      obtain ⟨p1, q1, a1, b1, c1, d1⟩ := R8.at_ (i := 1) (by decide)
      obtain ⟨p2, q2, a2, b2, c2, d2⟩ := R8.at_ (i := 2) (by decide)
      obtain ⟨N0, h0, m0, sb0, no0⟩ := R8.ok 0 _ _ a0 b0
      obtain ⟨N1, h1, m1, sb1, no1⟩ := R8.ok 1 _ _ a1 b1
      obtain ⟨N2, h2, m2, sb2, no2⟩ := R8.ok 2 _ _ a2 b2
      have lq0 := nodup_len _ _ no0 sb0
      have lq1 := nodup_len _ _ no1 sb1
      have lq2 := nodup_len _ _ no2 sb2
      have lp0 := nodup_len _ _ (ris_nodup N0.ris) fun z hz => sb0 z ((m0 z).mp hz)
      have lp1 := nodup_len _ _ (ris_nodup N1.ris) fun z hz => sb1 z ((m1 z).mp hz)
      have lp2 := nodup_len _ _ (ris_nodup N2.ris) fun z hz => sb2 z ((m2 z).mp hz)
      have pz : ∀ z ∈ ev, z.length ≤ 1000 := fun z hz => (ptE z hz).l
      have i0 : ∀ {xs : List V} {v : V}, xs[0]? = some v → atI xs 0 = some v := fun {xs v} h => atI_nat (j := 0) h
      have i1 : ∀ {xs : List V} {v : V}, xs[1]? = some v → atI xs 1 = some v := fun {xs v} h => atI_nat (j := 1) h
      have i2 : ∀ {xs : List V} {v : V}, xs[2]? = some v → atI xs 2 = some v := fun {xs v} h => atI_nat (j := 2) h
      -- the union of all
      refine ⟨_, rfl, E, rfl, ⟨_, .inl (.inl R8.hE)⟩, fun Wh hW => ?_⟩
      refine lc_filS (K := K) (ev := ev) (fun z => decide (z ∈ (q0.2 ++ q1.2) ++ q2.2)) (by omega) R8.hE hW (fun _ => rfl) (fun _ => rfl) (fun z hz H9 R s9 h => ?_) fun H9 s9 hW9 => ?_
      · have R9 := R8.same s9
        refine ⟨_, rfl, _, rfl, M, _, _, _, rfl, rfl, .inl (.inl R9.hM), i0 d0, _, rfl, M, _, _, _, rfl, rfl, .inl (.inl R9.hM), i1 d1, ?_⟩
        refine ⟨q0.1, q1.1, _, _, rfl, rfl, s9 _ _ h0, s9 _ _ h1, by rw [List.length_map, List.length_map, sizeLine_eq]; omega, fun u1 n1 => ?_⟩
        have t1 := same_new (o := .lst (q0.2.map V.str ++ q1.2.map V.str)) n1
        refine ⟨_, rfl, M, _, _, _, rfl, rfl, .inl (.inl (t1 _ _ R9.hM)), i2 d2, u1, q2.1, _, _, rfl, rfl, upd_same, t1 _ _ (s9 _ _ h2), by rw [List.length_append, List.length_map, List.length_map, List.length_map, sizeLine_eq]; omega, fun u2 n2 => ?_⟩
        refine in_reads (l := (q0.2 ++ q1.2) ++ q2.2) (by rw [upd_same, List.map_append, List.map_append]) ⟨_, rfl, h _ (t1.trans (same_new n2))⟩
      have R9 := R8.same s9
      have ndW : (ev.filter fun z => decide (z ∈ (q0.2 ++ q1.2) ++ q2.2)).Nodup := ndE.filter _
      have leW : (ev.filter fun z => decide (z ∈ (q0.2 ++ q1.2) ++ q2.2)).length ≤ 6 := Nat.le_trans (List.length_filter_le _ _) (by omega)
      have efl : ([p0, p1, p2] : List (Addr × List Str)).flatMap (·.2) = p0.2 ++ (p1.2 ++ p2.2) := by simp
      refine ⟨rfl, _, rfl, S, _, _, _, rfl, rfl, .inl (.inl R9.hS), i0 c0, _, rfl, S, _, _, _, rfl, rfl, .inl (.inl R9.hS), i1 c1, _, rfl, S, _, _, _, rfl, rfl, .inl (.inl R9.hS), i2 c2, ?_⟩
      refine ⟨[p0, p1, p2], rfl, (by show 3 ≤ 1000; decide), ?_, by rw [efl, List.length_append, List.length_append]; omega, fun x us H10 X s10 mem le => ?_⟩
      · intro p hp
        rcases List.mem_cons.mp hp with rfl | hp
        · exact N0.same s9
        rcases List.mem_cons.mp hp with rfl | hp
        · exact N1.same s9
        rw [List.mem_singleton.mp hp]; exact N2.same s9
      rw [efl] at mem
      refine ⟨_, rfl, _, rfl, x, Wh, E, us, _, ev, rfl, X, s10 _ _ hW9, s10 _ _ R9.hE, ndW, by omega, by omega, fun z => ?_, pz, fun H11 s11 => ⟨_, rfl, iteF ?_⟩⟩
      · rw [mem, List.mem_filter, decide_eq_true_eq, List.mem_append, List.mem_append, List.mem_append, List.mem_append, m0, m1, m2]
        refine ⟨fun hh => ⟨?_, ?_⟩, fun hh => ?_⟩
        · rcases hh with hh | hh | hh
          · exact sb0 z hh
          · exact sb1 z hh
          · exact sb2 z hh
        · rcases hh with hh | hh | hh
          · exact .inl (.inl hh)
          · exact .inl (.inr hh)
          · exact .inr hh
        · rcases hh.2 with (hh | hh) | hh
          · exact .inl hh
          · exact .inr (.inl hh)
          · exact .inr (.inr hh)
      -- none, one
      have S11 := (s9.trans s10).trans s11
      have R11 := R8.same S11
      refine ⟨rfl, [], rfl, (by show 0 ≤ 1000; decide), (fun p hp => nomatch hp), (by show 0 < 64; decide), fun x us H12 X s12 mem le => ?_⟩
      refine ⟨(by show 0 ≤ sizeLine; decide), fun u0 hu0 => ?_⟩
      have s13 := s12.trans (same_new (o := .lst []) hu0)
      refine ⟨_, rfl, x, u0, E, us, [], ev, rfl, X.same (same_new hu0), upd_same, s13 _ _ R11.hE, .nil, (by show 0 < 64; decide), by omega, mem, pz, fun H14 s14 => ⟨_, rfl, iteF ?_⟩⟩
      have S14 := S11.trans (s13.trans s14)
      have R14 := R8.same S14
      have efl1 : ([p1] : List (Addr × List Str)).flatMap (·.2) = p1.2 := by simp
      refine ⟨rfl, _, rfl, S, _, _, _, rfl, rfl, .inl (.inl R14.hS), i1 c1, [p1], rfl, (by show 1 ≤ 1000; decide), ?_, by rw [efl1]; omega, fun x us H15 X s15 mem le => ?_⟩
      · intro p hp
        rw [List.mem_singleton.mp hp]; exact N1.same S14
      rw [efl1] at mem
      have S15 := S14.trans s15
      refine ⟨_, rfl, M, _, _, _, rfl, rfl, .inl (.inl (S15 _ _ R8.hM)), i1 d1, _, rfl, x, q1.1, E, us, q1.2, ev, rfl, X, S15 _ _ h1, S15 _ _ R8.hE, no1, by omega, by omega, fun z => (mem z).trans (m1 z), pz, fun H16 s16 => ⟨_, rfl, iteF ?_⟩⟩
      -- s0 | s1 == s1 | s0
      have S16 := S15.trans s16
      have R16 := R8.same S16
      refine ⟨_, rfl, S, _, _, _, rfl, rfl, .inl (.inl R16.hS), i0 c0, _, rfl, S, _, _, _, rfl, rfl, .inl (.inl R16.hS), i1 c1, bin_reads (N0.same S16) (N1.same S16) (by omega) fun x us H17 X s17 mem le => ?_⟩
      have R17 := R16.same s17
      have S17 := S16.trans s17
      refine ⟨_, rfl, S, _, _, _, rfl, rfl, .inl (.inl R17.hS), i1 c1, _, rfl, S, _, _, _, rfl, rfl, .inl (.inl R17.hS), i0 c0, bin_reads (N1.same S17) (N0.same S17) (by omega) fun y vs H18 Y s18 mem2 le2 => ?_⟩
      have e1 : us = vs := ris_eq X.ris Y.ris fun z => by rw [mem, mem2]; exact Or.comm
      obtain ⟨dx1, t1, x1, x2⟩ := (X.same s18).at_
      obtain ⟨dy1, t2, y1, y2⟩ := Y.at_
      refine ⟨x, y, _, _, _, _, rfl, rfl, x1, y1, x, y, us, vs, rfl, X.same s18, Y, _, rfl, _, rfl, ?_⟩
      rw [decide_eq_true e1]
      refine iteF ?_
      have S18 := S17.trans s18
      have R18 := R8.same S18
      -- s0 - s1 | s0 & s1 == s0
      refine ⟨_, rfl, S, _, _, _, rfl, rfl, .inl (.inl R18.hS), i0 c0, _, rfl, S, _, _, _, rfl, rfl, .inl (.inl R18.hS), i1 c1, bin_reads (N0.same S18) (N1.same S18) (by omega) fun x us H19 X s19 mem le => ?_⟩
      have S19 := S18.trans s19
      have R19 := R8.same S19
      refine ⟨_, rfl, S, _, _, _, rfl, rfl, .inl (.inl R19.hS), i0 c0, _, rfl, S, _, _, _, rfl, rfl, .inl (.inl R19.hS), i1 c1, bin_reads (N0.same S19) (N1.same S19) (by omega) fun y vs H20 Y s20 mem2 le2 => ?_⟩
      have S20 := S19.trans s20
      refine bin_reads (X.same s20) Y (by omega) fun z ws H21 Z s21 mem3 le3 => ?_
      have S21 := S20.trans s21
      have R21 := R8.same S21
      have e2 : ws = p0.2 := ris_eq Z.ris N0.ris fun y => by
        rw [mem3]
        unfold wOr
        rw [mem, mem2]
        unfold wSub wAnd
        by_cases hh : y ∈ p1.2
        · simp [hh]
        · simp [hh]
      refine ⟨_, rfl, S, _, _, _, rfl, rfl, .inl (.inl R21.hS), i0 c0, ?_⟩
      obtain ⟨dx1, t1, x1, x2⟩ := Z.at_
      obtain ⟨dy1, t2, y1, y2⟩ := (N0.same S21).at_
      refine ⟨z, p0.1, _, _, _, _, rfl, rfl, x1, y1, z, p0.1, ws, p0.2, rfl, Z, N0.same S21, _, rfl, _, rfl, ?_⟩
      rw [decide_eq_true e2]
      refine iteF ?_
      -- the sets are as they were
      refine ⟨_, rfl, by decide, by decide, fun Zz hZ => ?_⟩
      refine lc_range (lo := 0) (n := 3) (fun j H22 => Same H21 H22 ∧ H22 Zz = some (.lst [])) ⟨same_new hZ, upd_same⟩ ?_ ?_
      · rintro j H22 hj ⟨s22, hZ22⟩
        have R22 := R21.same s22
        obtain ⟨p, r, a9, b9, c9, d9⟩ := R22.at_ hj
        obtain ⟨N9, h9, m9, sb9, no9⟩ := R22.ok j _ _ a9 b9
        have l9 := nodup_len _ _ no9 sb9
        have ix : ∀ {xs : List V} {n : Nat} {v : V}, xs[n]? = some v → atI xs (0 + (n : Int)) = some v := fun {xs n v} h => by rw [Int.zero_add]; exact atI_nat h
        refine ⟨rfl, ?_⟩
        refine ⟨_, rfl, _, rfl, S, _, _, _, rfl, rfl, .inl (.inl R22.hS), ix c9, _, rfl, _, rfl, M, _, _, _, rfl, rfl, .inl (.inl R22.hM), ix d9, _, rfl, ?_⟩
        refine ⟨p.1, r.1, E, p.2, r.2, ev, rfl, N9, h9, R22.hE, no9, by omega, by omega, m9, pz, fun H23 s23 => ⟨_, rfl, iteF ⟨s22.trans s23, s23 _ _ hZ22⟩⟩⟩
      · rintro H22 ⟨s22, hZ22⟩
        refine ⟨(by show 0 ≤ sizeLine; decide), fun u9 n9 => ?_⟩
        have s23 := same_new (o := .lst []) n9
        refine ⟨_, _, .lst (.inl (.inl (s23 _ _ hZ22))) .nil, .lst (.inl (.inl upd_same)) .nil, rfl, rfl, _, rfl, iteF ?_⟩
        refine ⟨_, _, _, _, _, _, _, _, _, _, rfl, ?_⟩
        exact (D6.same ((s7.trans s8).trans (S21.trans (s22.trans s23)))).mono (by omega)
    · rintro σ H2 ⟨v2, v3, v4, v5, v6, v7, v8, v9, v10, v11, rfl, D2⟩
      exact k H2
end
end Sn

namespace Sn
open PySem PySem.Spec PyProof.Rows L2
theorem all_mk {l : PySem.W.OpenLaw} {w : World} {K : PySem.W.Frag} {h : Heap} {mg : Str → Option Value} {fa : Addr}
    {f_is_word : Addr} {od_is_word an_is_word : Option Addr} {sl_is_word : Array (Option Value)} {oc_is_word kV_is_word dc_is_word pm_is_word cd_is_word ct_is_word : Value}
    {f_is_name : Addr} {od_is_name an_is_name : Option Addr} {sl_is_name : Array (Option Value)} {oc_is_name kV_is_name dc_is_name pm_is_name cd_is_name ct_is_name : Value}
    {f_is_path : Addr} {od_is_path an_is_path : Option Addr} {sl_is_path : Array (Option Value)} {oc_is_path kV_is_path dc_is_path pm_is_path cd_is_path ct_is_path : Value}
    {f_law_begun : Addr} {od_law_begun an_law_begun : Option Addr} {sl_law_begun : Array (Option Value)} {oc_law_begun kV_law_begun dc_law_begun pm_law_begun cd_law_begun ct_law_begun : Value}
    {f_law_mixed : Addr} {od_law_mixed an_law_mixed : Option Addr} {sl_law_mixed : Array (Option Value)} {oc_law_mixed kV_law_mixed dc_law_mixed pm_law_mixed cd_law_mixed ct_law_mixed : Value}
    {f_law_take : Addr} {od_law_take an_law_take : Option Addr} {sl_law_take : Array (Option Value)} {oc_law_take kV_law_take dc_law_take pm_law_take cd_law_take ct_law_take : Value}
    {f_law_pick : Addr} {od_law_pick an_law_pick : Option Addr} {sl_law_pick : Array (Option Value)} {oc_law_pick kV_law_pick dc_law_pick pm_law_pick cd_law_pick ct_law_pick : Value}
    {f_law_reserved : Addr} {od_law_reserved an_law_reserved : Option Addr} {sl_law_reserved : Array (Option Value)} {oc_law_reserved kV_law_reserved dc_law_reserved pm_law_reserved cd_law_reserved ct_law_reserved : Value}
    {f_law_any_word : Addr} {od_law_any_word an_law_any_word : Option Addr} {sl_law_any_word : Array (Option Value)} {oc_law_any_word kV_law_any_word dc_law_any_word pm_law_any_word cd_law_any_word ct_law_any_word : Value}
    {f_law_any_name : Addr} {od_law_any_name an_law_any_name : Option Addr} {sl_law_any_name : Array (Option Value)} {oc_law_any_name kV_law_any_name dc_law_any_name pm_law_any_name cd_law_any_name ct_law_any_name : Value}
    {f_law_names : Addr} {od_law_names an_law_names : Option Addr} {sl_law_names : Array (Option Value)} {oc_law_names kV_law_names dc_law_names pm_law_names cd_law_names ct_law_names : Value}
    {f_law_set : Addr} {od_law_set an_law_set : Option Addr} {sl_law_set : Array (Option Value)} {oc_law_set kV_law_set dc_law_set pm_law_set cd_law_set ct_law_set : Value}
    {f_law_is : Addr} {od_law_is an_law_is : Option Addr} {sl_law_is : Array (Option Value)} {oc_law_is kV_law_is dc_law_is pm_law_is cd_law_is ct_law_is : Value}
    {f_law_pair_right : Addr} {od_law_pair_right an_law_pair_right : Option Addr} {sl_law_pair_right : Array (Option Value)} {oc_law_pair_right kV_law_pair_right dc_law_pair_right pm_law_pair_right cd_law_pair_right ct_law_pair_right : Value}
    {f_law : Addr} {od_law an_law : Option Addr} {sl_law : Array (Option Value)} {oc_law kV_law dc_law pm_law cd_law ct_law : Value}
    {t_LETTERS : Tok}
    {t_SIGNS : Tok}
    {t_MOST_SIGNS : Tok}
    {a_RESERVED : Addr} {od_RESERVED : Option Addr} {us_RESERVED : List Value} {nn_RESERVED : Nat} {sl_RESERVED : Array (Option Value)}
    {C_Names : Addr}
    {f_Names_init : Addr} {od_Names_init an_Names_init : Option Addr} {sl_Names_init : Array (Option Value)} {oc_Names_init kV_Names_init dc_Names_init pm_Names_init cd_Names_init ct_Names_init : Value}
    {f_Names_len : Addr} {od_Names_len an_Names_len : Option Addr} {sl_Names_len : Array (Option Value)} {oc_Names_len kV_Names_len dc_Names_len pm_Names_len cd_Names_len ct_Names_len : Value}
    {f_Names_contains : Addr} {od_Names_contains an_Names_contains : Option Addr} {sl_Names_contains : Array (Option Value)} {oc_Names_contains kV_Names_contains dc_Names_contains pm_Names_contains cd_Names_contains ct_Names_contains : Value}
    {f_Names_eq : Addr} {od_Names_eq an_Names_eq : Option Addr} {sl_Names_eq : Array (Option Value)} {oc_Names_eq kV_Names_eq dc_Names_eq pm_Names_eq cd_Names_eq ct_Names_eq : Value}
    {f_Names_or : Addr} {od_Names_or an_Names_or : Option Addr} {sl_Names_or : Array (Option Value)} {oc_Names_or kV_Names_or dc_Names_or pm_Names_or cd_Names_or ct_Names_or : Value}
    {f_Names_and : Addr} {od_Names_and an_Names_and : Option Addr} {sl_Names_and : Array (Option Value)} {oc_Names_and kV_Names_and dc_Names_and pm_Names_and cd_Names_and ct_Names_and : Value}
    {f_Names_sub : Addr} {od_Names_sub an_Names_sub : Option Addr} {sl_Names_sub : Array (Option Value)} {oc_Names_sub kV_Names_sub dc_Names_sub pm_Names_sub cd_Names_sub ct_Names_sub : Value}
    {f_Names_within : Addr} {od_Names_within an_Names_within : Option Addr} {sl_Names_within : Array (Option Value)} {oc_Names_within kV_Names_within dc_Names_within pm_Names_within cd_Names_within ct_Names_within : Value}
    {f_Names_gathered : Addr} {od_Names_gathered an_Names_gathered : Option Addr} {sl_Names_gathered : Array (Option Value)} {oc_Names_gathered kV_Names_gathered dc_Names_gathered pm_Names_gathered cd_Names_gathered ct_Names_gathered : Value}
    {q_Names_gathered : Addr} {rr_Names_gathered : List Value}
    (X : K.In h) (G : h.Ns mainGlobals mg) (hfa : mg "law" = some (.ref fa))
    (a_is_word : PySem.W.nsIn K mainGlobals "is_word" = some (some (.ref f_is_word)))
    (l_is_word : K.lookup f_is_word = some ⟨oc_is_word, od_is_word, .func (PySem.W.fnOf "is_word" "is_word" (defArgs s_is_word) (defBody s_is_word) (defScope s_is_word) .none kV_is_word dc_is_word pm_is_word an_is_word cd_is_word ct_is_word), sl_is_word⟩)
    (c_is_word : PySem.W.codeIn K cd_is_word "is_word" = true)
    (k_is_word : PySem.W.keepIn K (.ref f_is_word) = true)
    (a_is_name : PySem.W.nsIn K mainGlobals "is_name" = some (some (.ref f_is_name)))
    (l_is_name : K.lookup f_is_name = some ⟨oc_is_name, od_is_name, .func (PySem.W.fnOf "is_name" "is_name" (defArgs s_is_name) (defBody s_is_name) (defScope s_is_name) .none kV_is_name dc_is_name pm_is_name an_is_name cd_is_name ct_is_name), sl_is_name⟩)
    (c_is_name : PySem.W.codeIn K cd_is_name "is_name" = true)
    (k_is_name : PySem.W.keepIn K (.ref f_is_name) = true)
    (a_is_path : PySem.W.nsIn K mainGlobals "is_path" = some (some (.ref f_is_path)))
    (l_is_path : K.lookup f_is_path = some ⟨oc_is_path, od_is_path, .func (PySem.W.fnOf "is_path" "is_path" (defArgs s_is_path) (defBody s_is_path) (defScope s_is_path) .none kV_is_path dc_is_path pm_is_path an_is_path cd_is_path ct_is_path), sl_is_path⟩)
    (c_is_path : PySem.W.codeIn K cd_is_path "is_path" = true)
    (k_is_path : PySem.W.keepIn K (.ref f_is_path) = true)
    (a_law_begun : PySem.W.nsIn K mainGlobals "_law_begun" = some (some (.ref f_law_begun)))
    (l_law_begun : K.lookup f_law_begun = some ⟨oc_law_begun, od_law_begun, .func (PySem.W.fnOf "_law_begun" "_law_begun" (defArgs s_law_begun) (defBody s_law_begun) (defScope s_law_begun) .none kV_law_begun dc_law_begun pm_law_begun an_law_begun cd_law_begun ct_law_begun), sl_law_begun⟩)
    (c_law_begun : PySem.W.codeIn K cd_law_begun "_law_begun" = true)
    (k_law_begun : PySem.W.keepIn K (.ref f_law_begun) = true)
    (a_law_mixed : PySem.W.nsIn K mainGlobals "_law_mixed" = some (some (.ref f_law_mixed)))
    (l_law_mixed : K.lookup f_law_mixed = some ⟨oc_law_mixed, od_law_mixed, .func (PySem.W.fnOf "_law_mixed" "_law_mixed" (defArgs s_law_mixed) (defBody s_law_mixed) (defScope s_law_mixed) .none kV_law_mixed dc_law_mixed pm_law_mixed an_law_mixed cd_law_mixed ct_law_mixed), sl_law_mixed⟩)
    (c_law_mixed : PySem.W.codeIn K cd_law_mixed "_law_mixed" = true)
    (k_law_mixed : PySem.W.keepIn K (.ref f_law_mixed) = true)
    (a_law_take : PySem.W.nsIn K mainGlobals "_law_take" = some (some (.ref f_law_take)))
    (l_law_take : K.lookup f_law_take = some ⟨oc_law_take, od_law_take, .func (PySem.W.fnOf "_law_take" "_law_take" (defArgs s_law_take) (defBody s_law_take) (defScope s_law_take) .none kV_law_take dc_law_take pm_law_take an_law_take cd_law_take ct_law_take), sl_law_take⟩)
    (c_law_take : PySem.W.codeIn K cd_law_take "_law_take" = true)
    (k_law_take : PySem.W.keepIn K (.ref f_law_take) = true)
    (a_law_pick : PySem.W.nsIn K mainGlobals "_law_pick" = some (some (.ref f_law_pick)))
    (l_law_pick : K.lookup f_law_pick = some ⟨oc_law_pick, od_law_pick, .func (PySem.W.fnOf "_law_pick" "_law_pick" (defArgs s_law_pick) (defBody s_law_pick) (defScope s_law_pick) .none kV_law_pick dc_law_pick pm_law_pick an_law_pick cd_law_pick ct_law_pick), sl_law_pick⟩)
    (c_law_pick : PySem.W.codeIn K cd_law_pick "_law_pick" = true)
    (k_law_pick : PySem.W.keepIn K (.ref f_law_pick) = true)
    (a_law_reserved : PySem.W.nsIn K mainGlobals "_law_reserved" = some (some (.ref f_law_reserved)))
    (l_law_reserved : K.lookup f_law_reserved = some ⟨oc_law_reserved, od_law_reserved, .func (PySem.W.fnOf "_law_reserved" "_law_reserved" (defArgs s_law_reserved) (defBody s_law_reserved) (defScope s_law_reserved) .none kV_law_reserved dc_law_reserved pm_law_reserved an_law_reserved cd_law_reserved ct_law_reserved), sl_law_reserved⟩)
    (c_law_reserved : PySem.W.codeIn K cd_law_reserved "_law_reserved" = true)
    (k_law_reserved : PySem.W.keepIn K (.ref f_law_reserved) = true)
    (a_law_any_word : PySem.W.nsIn K mainGlobals "_law_any_word" = some (some (.ref f_law_any_word)))
    (l_law_any_word : K.lookup f_law_any_word = some ⟨oc_law_any_word, od_law_any_word, .func (PySem.W.fnOf "_law_any_word" "_law_any_word" (defArgs s_law_any_word) (defBody s_law_any_word) (defScope s_law_any_word) .none kV_law_any_word dc_law_any_word pm_law_any_word an_law_any_word cd_law_any_word ct_law_any_word), sl_law_any_word⟩)
    (c_law_any_word : PySem.W.codeIn K cd_law_any_word "_law_any_word" = true)
    (k_law_any_word : PySem.W.keepIn K (.ref f_law_any_word) = true)
    (a_law_any_name : PySem.W.nsIn K mainGlobals "_law_any_name" = some (some (.ref f_law_any_name)))
    (l_law_any_name : K.lookup f_law_any_name = some ⟨oc_law_any_name, od_law_any_name, .func (PySem.W.fnOf "_law_any_name" "_law_any_name" (defArgs s_law_any_name) (defBody s_law_any_name) (defScope s_law_any_name) .none kV_law_any_name dc_law_any_name pm_law_any_name an_law_any_name cd_law_any_name ct_law_any_name), sl_law_any_name⟩)
    (c_law_any_name : PySem.W.codeIn K cd_law_any_name "_law_any_name" = true)
    (k_law_any_name : PySem.W.keepIn K (.ref f_law_any_name) = true)
    (a_law_names : PySem.W.nsIn K mainGlobals "_law_names" = some (some (.ref f_law_names)))
    (l_law_names : K.lookup f_law_names = some ⟨oc_law_names, od_law_names, .func (PySem.W.fnOf "_law_names" "_law_names" (defArgs s_law_names) (defBody s_law_names) (defScope s_law_names) .none kV_law_names dc_law_names pm_law_names an_law_names cd_law_names ct_law_names), sl_law_names⟩)
    (c_law_names : PySem.W.codeIn K cd_law_names "_law_names" = true)
    (k_law_names : PySem.W.keepIn K (.ref f_law_names) = true)
    (a_law_set : PySem.W.nsIn K mainGlobals "_law_set" = some (some (.ref f_law_set)))
    (l_law_set : K.lookup f_law_set = some ⟨oc_law_set, od_law_set, .func (PySem.W.fnOf "_law_set" "_law_set" (defArgs s_law_set) (defBody s_law_set) (defScope s_law_set) .none kV_law_set dc_law_set pm_law_set an_law_set cd_law_set ct_law_set), sl_law_set⟩)
    (c_law_set : PySem.W.codeIn K cd_law_set "_law_set" = true)
    (k_law_set : PySem.W.keepIn K (.ref f_law_set) = true)
    (a_law_is : PySem.W.nsIn K mainGlobals "_law_is" = some (some (.ref f_law_is)))
    (l_law_is : K.lookup f_law_is = some ⟨oc_law_is, od_law_is, .func (PySem.W.fnOf "_law_is" "_law_is" (defArgs s_law_is) (defBody s_law_is) (defScope s_law_is) .none kV_law_is dc_law_is pm_law_is an_law_is cd_law_is ct_law_is), sl_law_is⟩)
    (c_law_is : PySem.W.codeIn K cd_law_is "_law_is" = true)
    (k_law_is : PySem.W.keepIn K (.ref f_law_is) = true)
    (a_law_pair_right : PySem.W.nsIn K mainGlobals "_law_pair_right" = some (some (.ref f_law_pair_right)))
    (l_law_pair_right : K.lookup f_law_pair_right = some ⟨oc_law_pair_right, od_law_pair_right, .func (PySem.W.fnOf "_law_pair_right" "_law_pair_right" (defArgs s_law_pair_right) (defBody s_law_pair_right) (defScope s_law_pair_right) .none kV_law_pair_right dc_law_pair_right pm_law_pair_right an_law_pair_right cd_law_pair_right ct_law_pair_right), sl_law_pair_right⟩)
    (c_law_pair_right : PySem.W.codeIn K cd_law_pair_right "_law_pair_right" = true)
    (k_law_pair_right : PySem.W.keepIn K (.ref f_law_pair_right) = true)
    (a_law : PySem.W.nsIn K mainGlobals "law" = some (some (.ref f_law)))
    (l_law : K.lookup f_law = some ⟨oc_law, od_law, .func (PySem.W.fnOf "law" "law" (defArgs s_law) (defBody s_law) (defScope s_law) .none kV_law dc_law pm_law an_law cd_law ct_law), sl_law⟩)
    (c_law : PySem.W.codeIn K cd_law "law" = true)
    (k_law : PySem.W.keepIn K (.ref f_law) = true)
    (n_LETTERS : PySem.W.nsIn K mainGlobals "LETTERS" = some (some (.str "abcdefghijklmnopqrstuvwxyz" t_LETTERS)))
    (n_SIGNS : PySem.W.nsIn K mainGlobals "SIGNS" = some (some (.str "abcdefghijklmnopqrstuvwxyz0123456789_" t_SIGNS)))
    (n_MOST_SIGNS : PySem.W.nsIn K mainGlobals "MOST_SIGNS" = some (some (.int 8 t_MOST_SIGNS)))
    (n_RESERVED : PySem.W.nsIn K mainGlobals "RESERVED" = some (some (.ref a_RESERVED)))
    (l_RESERVED : K.lookup a_RESERVED = some ⟨.type "tuple", od_RESERVED, .seq us_RESERVED.toArray nn_RESERVED, sl_RESERVED⟩)
    (s_RESERVED : us_RESERVED.length ≤ 1000)
    (v_RESERVED : Vals [V.str "as", V.str "ask", V.str "call", V.str "def", V.str "each", V.str "else", V.str "entry", V.str "except", V.str "fail", V.str "if", V.str "in", V.str "let", V.str "offer", V.str "return", V.str "set", V.str "table", V.str "there", V.str "try", V.str "use"] us_RESERVED)
    (z_super : PySem.W.nsIn K mainGlobals "super" = some none)
    (z_isinstance : PySem.W.nsIn K mainGlobals "isinstance" = some none)
    (z_str : PySem.W.nsIn K mainGlobals "str" = some none)
    (z_all : PySem.W.nsIn K mainGlobals "all" = some none)
    (z_len : PySem.W.nsIn K mainGlobals "len" = some none)
    (z_tuple : PySem.W.nsIn K mainGlobals "tuple" = some none)
    (z_enumerate : PySem.W.nsIn K mainGlobals "enumerate" = some none)
    (z_sorted : PySem.W.nsIn K mainGlobals "sorted" = some none)
    (z_list : PySem.W.nsIn K mainGlobals "list" = some none)
    (z_iter : PySem.W.nsIn K mainGlobals "iter" = some none)
    (z_NotImplemented : PySem.W.nsIn K mainGlobals "NotImplemented" = some none)
    (z_classmethod : PySem.W.nsIn K mainGlobals "classmethod" = some none)
    (z_int : PySem.W.nsIn K mainGlobals "int" = some none)
    (z_range : PySem.W.nsIn K mainGlobals "range" = some none)
    (z_repr : PySem.W.nsIn K mainGlobals "repr" = some none)
    (z_min : PySem.W.nsIn K mainGlobals "min" = some none)
    (a_Names : PySem.W.nsIn K mainGlobals "Names" = some (some (.ref C_Names)))
    (pg_Names : PySem.W.plainGet K C_Names Str.empty = true)
    (hd_Names : PySem.W.hasDictIn K C_Names = true)
    (po_Names : PySem.W.plainOver K C_Names = true)
    (sa_Names : PySem.W.findIn K (.ref C_Names) "__setattr__" = some (some (.builtin "object.__setattr__")))
    (mk_Names : PySem.W.makesIn K C_Names = true)
    (kc_Names : PySem.W.keepIn K (.ref C_Names) = true)
    (sf_Names : PySem.W.selfFirst K C_Names = true)
    (ih_Names : PySem.W.findIn K (.ref C_Names) "__class__" = some (some (.builtin "object.__class__")))
    (im_Names : PySem.W.mroIn K C_Names (.type "object") = some true)
    (ne_Names : PySem.W.findIn K (.ref C_Names) "__ne__" = some (some (.builtin "object.__ne__")))
    (in_Names : PySem.W.specialIn K (.builtin "object.__class__") "__get__" = some (some (.builtin "getset_descriptor.__get__")))
    (it_Names : PySem.W.takesIn K (.builtin "object.__class__") = some true)
    (at_Names_paths : PySem.W.findIn K (.ref C_Names) "paths" = some none)
    (a_Names_init : PySem.W.findIn K (.ref C_Names) "__init__" = some (some (.ref f_Names_init)))
    (i_Names_init : PySem.W.isFn K (.ref f_Names_init) = true)
    (l_Names_init : K.lookup f_Names_init = some ⟨oc_Names_init, od_Names_init, .func (PySem.W.fnOf "__init__" "Names.__init__" (defArgs s_Names_init) (defBody s_Names_init) (defScope s_Names_init) .none kV_Names_init dc_Names_init pm_Names_init an_Names_init cd_Names_init ct_Names_init), sl_Names_init⟩)
    (c_Names_init : PySem.W.codeIn K cd_Names_init "Names.__init__" = true)
    (k_Names_init : PySem.W.keepIn K (.ref f_Names_init) = true)
    (a_Names_len : PySem.W.findIn K (.ref C_Names) "__len__" = some (some (.ref f_Names_len)))
    (i_Names_len : PySem.W.isFn K (.ref f_Names_len) = true)
    (l_Names_len : K.lookup f_Names_len = some ⟨oc_Names_len, od_Names_len, .func (PySem.W.fnOf "__len__" "Names.__len__" (defArgs s_Names_len) (defBody s_Names_len) (defScope s_Names_len) .none kV_Names_len dc_Names_len pm_Names_len an_Names_len cd_Names_len ct_Names_len), sl_Names_len⟩)
    (c_Names_len : PySem.W.codeIn K cd_Names_len "Names.__len__" = true)
    (k_Names_len : PySem.W.keepIn K (.ref f_Names_len) = true)
    (a_Names_contains : PySem.W.findIn K (.ref C_Names) "__contains__" = some (some (.ref f_Names_contains)))
    (i_Names_contains : PySem.W.isFn K (.ref f_Names_contains) = true)
    (l_Names_contains : K.lookup f_Names_contains = some ⟨oc_Names_contains, od_Names_contains, .func (PySem.W.fnOf "__contains__" "Names.__contains__" (defArgs s_Names_contains) (defBody s_Names_contains) (defScope s_Names_contains) .none kV_Names_contains dc_Names_contains pm_Names_contains an_Names_contains cd_Names_contains ct_Names_contains), sl_Names_contains⟩)
    (c_Names_contains : PySem.W.codeIn K cd_Names_contains "Names.__contains__" = true)
    (k_Names_contains : PySem.W.keepIn K (.ref f_Names_contains) = true)
    (a_Names_eq : PySem.W.findIn K (.ref C_Names) "__eq__" = some (some (.ref f_Names_eq)))
    (i_Names_eq : PySem.W.isFn K (.ref f_Names_eq) = true)
    (l_Names_eq : K.lookup f_Names_eq = some ⟨oc_Names_eq, od_Names_eq, .func (PySem.W.fnOf "__eq__" "Names.__eq__" (defArgs s_Names_eq) (defBody s_Names_eq) (defScope s_Names_eq) .none kV_Names_eq dc_Names_eq pm_Names_eq an_Names_eq cd_Names_eq ct_Names_eq), sl_Names_eq⟩)
    (c_Names_eq : PySem.W.codeIn K cd_Names_eq "Names.__eq__" = true)
    (k_Names_eq : PySem.W.keepIn K (.ref f_Names_eq) = true)
    (a_Names_or : PySem.W.findIn K (.ref C_Names) "__or__" = some (some (.ref f_Names_or)))
    (i_Names_or : PySem.W.isFn K (.ref f_Names_or) = true)
    (l_Names_or : K.lookup f_Names_or = some ⟨oc_Names_or, od_Names_or, .func (PySem.W.fnOf "__or__" "Names.__or__" (defArgs s_Names_or) (defBody s_Names_or) (defScope s_Names_or) .none kV_Names_or dc_Names_or pm_Names_or an_Names_or cd_Names_or ct_Names_or), sl_Names_or⟩)
    (c_Names_or : PySem.W.codeIn K cd_Names_or "Names.__or__" = true)
    (k_Names_or : PySem.W.keepIn K (.ref f_Names_or) = true)
    (a_Names_and : PySem.W.findIn K (.ref C_Names) "__and__" = some (some (.ref f_Names_and)))
    (i_Names_and : PySem.W.isFn K (.ref f_Names_and) = true)
    (l_Names_and : K.lookup f_Names_and = some ⟨oc_Names_and, od_Names_and, .func (PySem.W.fnOf "__and__" "Names.__and__" (defArgs s_Names_and) (defBody s_Names_and) (defScope s_Names_and) .none kV_Names_and dc_Names_and pm_Names_and an_Names_and cd_Names_and ct_Names_and), sl_Names_and⟩)
    (c_Names_and : PySem.W.codeIn K cd_Names_and "Names.__and__" = true)
    (k_Names_and : PySem.W.keepIn K (.ref f_Names_and) = true)
    (a_Names_sub : PySem.W.findIn K (.ref C_Names) "__sub__" = some (some (.ref f_Names_sub)))
    (i_Names_sub : PySem.W.isFn K (.ref f_Names_sub) = true)
    (l_Names_sub : K.lookup f_Names_sub = some ⟨oc_Names_sub, od_Names_sub, .func (PySem.W.fnOf "__sub__" "Names.__sub__" (defArgs s_Names_sub) (defBody s_Names_sub) (defScope s_Names_sub) .none kV_Names_sub dc_Names_sub pm_Names_sub an_Names_sub cd_Names_sub ct_Names_sub), sl_Names_sub⟩)
    (c_Names_sub : PySem.W.codeIn K cd_Names_sub "Names.__sub__" = true)
    (k_Names_sub : PySem.W.keepIn K (.ref f_Names_sub) = true)
    (a_Names_within : PySem.W.findIn K (.ref C_Names) "within" = some (some (.ref f_Names_within)))
    (i_Names_within : PySem.W.isFn K (.ref f_Names_within) = true)
    (l_Names_within : K.lookup f_Names_within = some ⟨oc_Names_within, od_Names_within, .func (PySem.W.fnOf "within" "Names.within" (defArgs s_Names_within) (defBody s_Names_within) (defScope s_Names_within) .none kV_Names_within dc_Names_within pm_Names_within an_Names_within cd_Names_within ct_Names_within), sl_Names_within⟩)
    (c_Names_within : PySem.W.codeIn K cd_Names_within "Names.within" = true)
    (k_Names_within : PySem.W.keepIn K (.ref f_Names_within) = true)
    (rd_Names_gathered : PySem.W.readsIn K C_Names (.type "type") = true)
    (rg_Names_gathered : PySem.W.specialIn K (.ref C_Names) "__getattribute__" = some (some (.builtin "type.__getattribute__")))
    (ra_Names_gathered : PySem.W.findCls K (.ref C_Names) (.type "type") "gathered" = some (.get (.builtin "classmethod.__get__") (.ref q_Names_gathered) .none (.ref C_Names)))
    (rc_Names_gathered : PySem.W.recIn K q_Names_gathered "classmethod" = some (.ref f_Names_gathered :: rr_Names_gathered))
    (rf_Names_gathered : PySem.W.fnIn K f_Names_gathered = true)
    (l_Names_gathered : K.lookup f_Names_gathered = some ⟨oc_Names_gathered, od_Names_gathered, .func (PySem.W.fnOf "gathered" "Names.gathered" (defArgs s_Names_gathered) (defBody s_Names_gathered) (defScope s_Names_gathered) .none kV_Names_gathered dc_Names_gathered pm_Names_gathered an_Names_gathered cd_Names_gathered ct_Names_gathered), sl_Names_gathered⟩)
    (c_Names_gathered : PySem.W.codeIn K cd_Names_gathered "Names.gathered" = true)
    (k_Names_gathered : PySem.W.keepIn K (.ref f_Names_gathered) = true) :
    ∃ fd : FuncData, (∀ (s : Shared) (v : Value), BindsTo s fd ⟨[v], []⟩ [("_law_script", v)]) ∧ ∀ base : Heap, K.In base → base.Ns mainGlobals mg → FnG l.prog w K mg base CX0 8 fa fd ["_law_script"] (spLaw K) := by
  have e3 : fa = f_law := by
    have z := hfa.symm.trans (PySem.W.mg_of X G a_law)
    injection z with z
    injection z
  have T : Nonempty { T : Txt K mg // T.f_law = f_law ∧ T.fd_law = PySem.W.fnOf "law" "law" (defArgs s_law) (defBody s_law) (defScope s_law) .none kV_law dc_law pm_law an_law cd_law ct_law } := ⟨⟨{
    f_is_word := f_is_word, fd_is_word := _, F_is_word := fun_mk (st := s_is_word) l_is_word c_is_word k_is_word, g_is_word := PySem.W.mg_of X G a_is_word,
    b_is_word := (fun_mk (st := s_is_word) l_is_word c_is_word k_is_word).binds (ps := ["value"]) fun _ _ _ _ _ _ us hl => match us, hl with | [_], _ => rfl,
    f_is_name := f_is_name, fd_is_name := _, F_is_name := fun_mk (st := s_is_name) l_is_name c_is_name k_is_name, g_is_name := PySem.W.mg_of X G a_is_name,
    b_is_name := (fun_mk (st := s_is_name) l_is_name c_is_name k_is_name).binds (ps := ["value"]) fun _ _ _ _ _ _ us hl => match us, hl with | [_], _ => rfl,
    f_is_path := f_is_path, fd_is_path := _, F_is_path := fun_mk (st := s_is_path) l_is_path c_is_path k_is_path, g_is_path := PySem.W.mg_of X G a_is_path,
    b_is_path := (fun_mk (st := s_is_path) l_is_path c_is_path k_is_path).binds (ps := ["value"]) fun _ _ _ _ _ _ us hl => match us, hl with | [_], _ => rfl,
    f_law_begun := f_law_begun, fd_law_begun := _, F_law_begun := fun_mk (st := s_law_begun) l_law_begun c_law_begun k_law_begun, g_law_begun := PySem.W.mg_of X G a_law_begun,
    b_law_begun := (fun_mk (st := s_law_begun) l_law_begun c_law_begun k_law_begun).binds (ps := ["_law_script"]) fun _ _ _ _ _ _ us hl => match us, hl with | [_], _ => rfl,
    f_law_mixed := f_law_mixed, fd_law_mixed := _, F_law_mixed := fun_mk (st := s_law_mixed) l_law_mixed c_law_mixed k_law_mixed, g_law_mixed := PySem.W.mg_of X G a_law_mixed,
    b_law_mixed := (fun_mk (st := s_law_mixed) l_law_mixed c_law_mixed k_law_mixed).binds (ps := ["_law_state"]) fun _ _ _ _ _ _ us hl => match us, hl with | [_], _ => rfl,
    f_law_take := f_law_take, fd_law_take := _, F_law_take := fun_mk (st := s_law_take) l_law_take c_law_take k_law_take, g_law_take := PySem.W.mg_of X G a_law_take,
    b_law_take := (fun_mk (st := s_law_take) l_law_take c_law_take k_law_take).binds (ps := ["_law_state", "_law_size"]) fun _ _ _ _ _ _ us hl => match us, hl with | [_, _], _ => rfl,
    f_law_pick := f_law_pick, fd_law_pick := _, F_law_pick := fun_mk (st := s_law_pick) l_law_pick c_law_pick k_law_pick, g_law_pick := PySem.W.mg_of X G a_law_pick,
    b_law_pick := (fun_mk (st := s_law_pick) l_law_pick c_law_pick k_law_pick).binds (ps := ["_law_state", "_law_some"]) fun _ _ _ _ _ _ us hl => match us, hl with | [_, _], _ => rfl,
    f_law_reserved := f_law_reserved, fd_law_reserved := _, F_law_reserved := fun_mk (st := s_law_reserved) l_law_reserved c_law_reserved k_law_reserved, g_law_reserved := PySem.W.mg_of X G a_law_reserved,
    b_law_reserved := (fun_mk (st := s_law_reserved) l_law_reserved c_law_reserved k_law_reserved).binds (ps := []) fun _ _ _ _ _ _ us hl => match us, hl with | [], _ => rfl,
    f_law_any_word := f_law_any_word, fd_law_any_word := _, F_law_any_word := fun_mk (st := s_law_any_word) l_law_any_word c_law_any_word k_law_any_word, g_law_any_word := PySem.W.mg_of X G a_law_any_word,
    b_law_any_word := (fun_mk (st := s_law_any_word) l_law_any_word c_law_any_word k_law_any_word).binds (ps := ["_law_state", "_law_least", "_law_most"]) fun _ _ _ _ _ _ us hl => match us, hl with | [_, _, _], _ => rfl,
    f_law_any_name := f_law_any_name, fd_law_any_name := _, F_law_any_name := fun_mk (st := s_law_any_name) l_law_any_name c_law_any_name k_law_any_name, g_law_any_name := PySem.W.mg_of X G a_law_any_name,
    b_law_any_name := (fun_mk (st := s_law_any_name) l_law_any_name c_law_any_name k_law_any_name).binds (ps := ["_law_state"]) fun _ _ _ _ _ _ us hl => match us, hl with | [_], _ => rfl,
    f_law_names := f_law_names, fd_law_names := _, F_law_names := fun_mk (st := s_law_names) l_law_names c_law_names k_law_names, g_law_names := PySem.W.mg_of X G a_law_names,
    b_law_names := (fun_mk (st := s_law_names) l_law_names c_law_names k_law_names).binds (ps := ["_law_state", "_law_many"]) fun _ _ _ _ _ _ us hl => match us, hl with | [_, _], _ => rfl,
    f_law_set := f_law_set, fd_law_set := _, F_law_set := fun_mk (st := s_law_set) l_law_set c_law_set k_law_set, g_law_set := PySem.W.mg_of X G a_law_set,
    b_law_set := (fun_mk (st := s_law_set) l_law_set c_law_set k_law_set).binds (ps := ["_law_some"]) fun _ _ _ _ _ _ us hl => match us, hl with | [_], _ => rfl,
    f_law_is := f_law_is, fd_law_is := _, F_law_is := fun_mk (st := s_law_is) l_law_is c_law_is k_law_is, g_law_is := PySem.W.mg_of X G a_law_is,
    b_law_is := (fun_mk (st := s_law_is) l_law_is c_law_is k_law_is).binds (ps := ["_law_made", "_law_due", "_law_every"]) fun _ _ _ _ _ _ us hl => match us, hl with | [_, _, _], _ => rfl,
    f_law_pair_right := f_law_pair_right, fd_law_pair_right := _, F_law_pair_right := fun_mk (st := s_law_pair_right) l_law_pair_right c_law_pair_right k_law_pair_right, g_law_pair_right := PySem.W.mg_of X G a_law_pair_right,
    b_law_pair_right := (fun_mk (st := s_law_pair_right) l_law_pair_right c_law_pair_right k_law_pair_right).binds (ps := ["_law_one", "_law_second", "_law_few", "_law_many", "_law_every"]) fun _ _ _ _ _ _ us hl => match us, hl with | [_, _, _, _, _], _ => rfl,
    f_law := f_law, fd_law := _, F_law := fun_mk (st := s_law) l_law c_law k_law, g_law := PySem.W.mg_of X G a_law,
    b_law := (fun_mk (st := s_law) l_law c_law k_law).binds (ps := ["_law_script"]) fun _ _ _ _ _ _ us hl => match us, hl with | [_], _ => rfl,
    c_LETTERS := ⟨_, PySem.W.mg_of X G n_LETTERS⟩,
    c_SIGNS := ⟨_, PySem.W.mg_of X G n_SIGNS⟩,
    c_MOST_SIGNS := ⟨_, PySem.W.mg_of X G n_MOST_SIGNS⟩,
    a_RESERVED := a_RESERVED, c_RESERVED := PySem.W.mg_of X G n_RESERVED, q_RESERVED := fun H => .inr ⟨_, us_RESERVED.toArray, _, l_RESERVED, rfl, rfl, Nat.le_of_lt (small1000 (by simpa using s_RESERVED)), by simpa using v_RESERVED⟩,
    z_super := PySem.W.mg_none_of X G z_super,
    z_isinstance := PySem.W.mg_none_of X G z_isinstance,
    z_str := PySem.W.mg_none_of X G z_str,
    z_all := PySem.W.mg_none_of X G z_all,
    z_len := PySem.W.mg_none_of X G z_len,
    z_tuple := PySem.W.mg_none_of X G z_tuple,
    z_enumerate := PySem.W.mg_none_of X G z_enumerate,
    z_sorted := PySem.W.mg_none_of X G z_sorted,
    z_list := PySem.W.mg_none_of X G z_list,
    z_iter := PySem.W.mg_none_of X G z_iter,
    z_NotImplemented := PySem.W.mg_none_of X G z_NotImplemented,
    z_classmethod := PySem.W.mg_none_of X G z_classmethod,
    z_int := PySem.W.mg_none_of X G z_int,
    z_range := PySem.W.mg_none_of X G z_range,
    z_repr := PySem.W.mg_none_of X G z_repr,
    z_min := PySem.W.mg_none_of X G z_min,
    C_Names := C_Names, gC_Names := PySem.W.mg_of X G a_Names, cl_Names := ⟨pg_Names, hd_Names, po_Names, sa_Names⟩, sf_Names := sf_Names, ih_Names := ih_Names, in_Names := in_Names, it_Names := it_Names, im_Names := im_Names, ne_Names := ne_Names,
    at_Names_paths := at_Names_paths,
    f_Names_init := f_Names_init, fd_Names_init := _, F_Names_init := fun_mk (st := s_Names_init) l_Names_init c_Names_init k_Names_init,
    m_Names_init := ⟨a_Names_init, i_Names_init, k_Names_init⟩,
    mk_Names := ⟨mk_Names, a_Names_init, i_Names_init, kc_Names⟩,
    f_Names_len := f_Names_len, fd_Names_len := _, F_Names_len := fun_mk (st := s_Names_len) l_Names_len c_Names_len k_Names_len,
    m_Names_len := ⟨a_Names_len, i_Names_len, k_Names_len⟩,
    b_Names_len := (fun_mk (st := s_Names_len) l_Names_len c_Names_len k_Names_len).binds (ps := ["self"]) fun _ _ _ _ _ _ us hl => match us, hl with | [_], _ => rfl,
    f_Names_contains := f_Names_contains, fd_Names_contains := _, F_Names_contains := fun_mk (st := s_Names_contains) l_Names_contains c_Names_contains k_Names_contains,
    m_Names_contains := ⟨a_Names_contains, i_Names_contains, k_Names_contains⟩,
    b_Names_contains := (fun_mk (st := s_Names_contains) l_Names_contains c_Names_contains k_Names_contains).binds (ps := ["self", "value"]) fun _ _ _ _ _ _ us hl => match us, hl with | [_, _], _ => rfl,
    f_Names_eq := f_Names_eq, fd_Names_eq := _, F_Names_eq := fun_mk (st := s_Names_eq) l_Names_eq c_Names_eq k_Names_eq,
    m_Names_eq := ⟨a_Names_eq, i_Names_eq, k_Names_eq⟩,
    b_Names_eq := (fun_mk (st := s_Names_eq) l_Names_eq c_Names_eq k_Names_eq).binds (ps := ["self", "other"]) fun _ _ _ _ _ _ us hl => match us, hl with | [_, _], _ => rfl,
    f_Names_or := f_Names_or, fd_Names_or := _, F_Names_or := fun_mk (st := s_Names_or) l_Names_or c_Names_or k_Names_or,
    m_Names_or := ⟨a_Names_or, i_Names_or, k_Names_or⟩,
    b_Names_or := (fun_mk (st := s_Names_or) l_Names_or c_Names_or k_Names_or).binds (ps := ["self", "other"]) fun _ _ _ _ _ _ us hl => match us, hl with | [_, _], _ => rfl,
    f_Names_and := f_Names_and, fd_Names_and := _, F_Names_and := fun_mk (st := s_Names_and) l_Names_and c_Names_and k_Names_and,
    m_Names_and := ⟨a_Names_and, i_Names_and, k_Names_and⟩,
    b_Names_and := (fun_mk (st := s_Names_and) l_Names_and c_Names_and k_Names_and).binds (ps := ["self", "other"]) fun _ _ _ _ _ _ us hl => match us, hl with | [_, _], _ => rfl,
    f_Names_sub := f_Names_sub, fd_Names_sub := _, F_Names_sub := fun_mk (st := s_Names_sub) l_Names_sub c_Names_sub k_Names_sub,
    m_Names_sub := ⟨a_Names_sub, i_Names_sub, k_Names_sub⟩,
    b_Names_sub := (fun_mk (st := s_Names_sub) l_Names_sub c_Names_sub k_Names_sub).binds (ps := ["self", "other"]) fun _ _ _ _ _ _ us hl => match us, hl with | [_, _], _ => rfl,
    f_Names_within := f_Names_within, fd_Names_within := _, F_Names_within := fun_mk (st := s_Names_within) l_Names_within c_Names_within k_Names_within,
    m_Names_within := ⟨a_Names_within, i_Names_within, k_Names_within⟩,
    b_Names_within := (fun_mk (st := s_Names_within) l_Names_within c_Names_within k_Names_within).binds (ps := ["self", "other"]) fun _ _ _ _ _ _ us hl => match us, hl with | [_, _], _ => rfl,
    mc_Names_gathered := _, q_Names_gathered := q_Names_gathered, cr_Names_gathered := ⟨rd_Names_gathered, rg_Names_gathered⟩, cm_Names_gathered := ⟨ra_Names_gathered, ⟨_, rc_Names_gathered⟩, rf_Names_gathered⟩,
    f_Names_gathered := f_Names_gathered, fd_Names_gathered := _, F_Names_gathered := fun_mk (st := s_Names_gathered) l_Names_gathered c_Names_gathered k_Names_gathered }, rfl, rfl⟩⟩
  obtain ⟨T, e1, e2⟩ := T
  refine ⟨PySem.W.fnOf "law" "law" (defArgs s_law) (defBody s_law) (defScope s_law) .none kV_law dc_law pm_law an_law cd_law ct_law, fun s v => .of_eq rfl, fun base _ _ => ?_⟩
  rw [e3, ← e1, ← e2]
  exact ok_law T
theorem walk {l : PySem.W.OpenLaw} {q : Program} {loose : List Str} {XP : (Str → Option Value) → Heap → Prop} {YP : World → Heap → Prop} {d : DefRec} {K : Params → PySem.W.Frag} (hn : l.most = some 63) (hdf : d.params.defaults = [])
    (hY : ∀ (w : World) (h : Heap), YP w h → (K w.params).In h)
    (F : ∀ (w : World) (mg : Str → Option Value) (fa : Addr) (h : Heap), (K w.params).In h → h.Ns mainGlobals mg → mg d.name = some (.ref fa) →
      ∃ fd : FuncData, (∀ (s : Shared) (u : Value), BindsTo s fd ⟨[u], []⟩ [("_law_script", u)]) ∧ ∀ base : Heap, (K w.params).In base → base.Ns mainGlobals mg → FnG l.prog w (K w.params) mg base CX0 8 fa fd ["_law_script"] (spLaw (K w.params))) :
    PySem.W.WalkO q loose XP YP l.row.toRowW d [] (fun f vs => PySem.call f vs) :=
  walkG (n := 63) (k := 8) (x := "_law_script") (CX := fun _ => CX0) (sp := fun w => spLaw (K w.params)) hn (by decide) hdf ⟨rfl, by decide, by decide⟩ hY F
    (fun _ _ a ns hl _ hS => ⟨a, ns, rfl, hS, hl, fun _ => rfl⟩) fun _ _ _ _ _ z => z
end Sn
open PySem PySem.W PyProof.Rows
set_option maxRecDepth 100000 in
set_option maxHeartbeats 0 in
theorem PySem.Challenge.cw_sparenames_k04_whole_sets_joined_holds : PySem.Challenge.rw_sparenames_k04_whole_sets_joined.Holds := by
  w_on; o_law; k_head; (case hw => w_witness2)
  k_fill
  refine Sn.walk (l := PySem.Challenge.rw_sparenames_k04_whole_sets_joined) rfl rfl (fun w h Y => PySem.W.kIn_of Y) ?F
  case F =>
    intro w mg fa h KX G hmg
    refine' Sn.all_mk KX G hmg ?a_is_word ?l_is_word ?c_is_word ?k_is_word ?a_is_name ?l_is_name ?c_is_name ?k_is_name ?a_is_path ?l_is_path ?c_is_path ?k_is_path ?a_law_begun ?l_law_begun ?c_law_begun ?k_law_begun ?a_law_mixed ?l_law_mixed ?c_law_mixed ?k_law_mixed ?a_law_take ?l_law_take ?c_law_take ?k_law_take ?a_law_pick ?l_law_pick ?c_law_pick ?k_law_pick ?a_law_reserved ?l_law_reserved ?c_law_reserved ?k_law_reserved ?a_law_any_word ?l_law_any_word ?c_law_any_word ?k_law_any_word ?a_law_any_name ?l_law_any_name ?c_law_any_name ?k_law_any_name ?a_law_names ?l_law_names ?c_law_names ?k_law_names ?a_law_set ?l_law_set ?c_law_set ?k_law_set ?a_law_is ?l_law_is ?c_law_is ?k_law_is ?a_law_pair_right ?l_law_pair_right ?c_law_pair_right ?k_law_pair_right ?a_law ?l_law ?c_law ?k_law ?n_LETTERS ?n_SIGNS ?n_MOST_SIGNS ?n_RESERVED ?l_RESERVED ?s_RESERVED ?v_RESERVED ?z_super ?z_isinstance ?z_str ?z_all ?z_len ?z_tuple ?z_enumerate ?z_sorted ?z_list ?z_iter ?z_NotImplemented ?z_classmethod ?z_int ?z_range ?z_repr ?z_min ?a_Names ?pg_Names ?hd_Names ?po_Names ?sa_Names ?mk_Names ?kc_Names ?sf_Names ?ih_Names ?im_Names ?ne_Names ?in_Names ?it_Names ?at_Names_paths ?a_Names_init ?i_Names_init ?l_Names_init ?c_Names_init ?k_Names_init ?a_Names_len ?i_Names_len ?l_Names_len ?c_Names_len ?k_Names_len ?a_Names_contains ?i_Names_contains ?l_Names_contains ?c_Names_contains ?k_Names_contains ?a_Names_eq ?i_Names_eq ?l_Names_eq ?c_Names_eq ?k_Names_eq ?a_Names_or ?i_Names_or ?l_Names_or ?c_Names_or ?k_Names_or ?a_Names_and ?i_Names_and ?l_Names_and ?c_Names_and ?k_Names_and ?a_Names_sub ?i_Names_sub ?l_Names_sub ?c_Names_sub ?k_Names_sub ?a_Names_within ?i_Names_within ?l_Names_within ?c_Names_within ?k_Names_within ?rd_Names_gathered ?rg_Names_gathered ?ra_Names_gathered ?rc_Names_gathered ?rf_Names_gathered ?l_Names_gathered ?c_Names_gathered ?k_Names_gathered
    (case a_is_word => k_is)
    (case l_is_word => k_is)
    (case c_is_word => k_is)
    (case k_is_word => k_is)
    (case a_is_name => k_is)
    (case l_is_name => k_is)
    (case c_is_name => k_is)
    (case k_is_name => k_is)
    (case a_is_path => k_is)
    (case l_is_path => k_is)
    (case c_is_path => k_is)
    (case k_is_path => k_is)
    (case a_law_begun => k_is)
    (case l_law_begun => k_is)
    (case c_law_begun => k_is)
    (case k_law_begun => k_is)
    (case a_law_mixed => k_is)
    (case l_law_mixed => k_is)
    (case c_law_mixed => k_is)
    (case k_law_mixed => k_is)
    (case a_law_take => k_is)
    (case l_law_take => k_is)
    (case c_law_take => k_is)
    (case k_law_take => k_is)
    (case a_law_pick => k_is)
    (case l_law_pick => k_is)
    (case c_law_pick => k_is)
    (case k_law_pick => k_is)
    (case a_law_reserved => k_is)
    (case l_law_reserved => k_is)
    (case c_law_reserved => k_is)
    (case k_law_reserved => k_is)
    (case a_law_any_word => k_is)
    (case l_law_any_word => k_is)
    (case c_law_any_word => k_is)
    (case k_law_any_word => k_is)
    (case a_law_any_name => k_is)
    (case l_law_any_name => k_is)
    (case c_law_any_name => k_is)
    (case k_law_any_name => k_is)
    (case a_law_names => k_is)
    (case l_law_names => k_is)
    (case c_law_names => k_is)
    (case k_law_names => k_is)
    (case a_law_set => k_is)
    (case l_law_set => k_is)
    (case c_law_set => k_is)
    (case k_law_set => k_is)
    (case a_law_is => k_is)
    (case l_law_is => k_is)
    (case c_law_is => k_is)
    (case k_law_is => k_is)
    (case a_law_pair_right => k_is)
    (case l_law_pair_right => k_is)
    (case c_law_pair_right => k_is)
    (case k_law_pair_right => k_is)
    (case a_law => k_is)
    (case l_law => k_is)
    (case c_law => k_is)
    (case k_law => k_is)
    (case n_LETTERS => k_is)
    (case n_SIGNS => k_is)
    (case n_MOST_SIGNS => k_is)
    (case n_RESERVED => k_is)
    (case l_RESERVED => k_is)
    (case s_RESERVED => decide)
    (case v_RESERVED => exact (.cons ⟨_, rfl⟩ (.cons ⟨_, rfl⟩ (.cons ⟨_, rfl⟩ (.cons ⟨_, rfl⟩ (.cons ⟨_, rfl⟩ (.cons ⟨_, rfl⟩ (.cons ⟨_, rfl⟩ (.cons ⟨_, rfl⟩ (.cons ⟨_, rfl⟩ (.cons ⟨_, rfl⟩ (.cons ⟨_, rfl⟩ (.cons ⟨_, rfl⟩ (.cons ⟨_, rfl⟩ (.cons ⟨_, rfl⟩ (.cons ⟨_, rfl⟩ (.cons ⟨_, rfl⟩ (.cons ⟨_, rfl⟩ (.cons ⟨_, rfl⟩ (.cons ⟨_, rfl⟩ .nil))))))))))))))))))))
    (case z_super => k_is)
    (case z_isinstance => k_is)
    (case z_str => k_is)
    (case z_all => k_is)
    (case z_len => k_is)
    (case z_tuple => k_is)
    (case z_enumerate => k_is)
    (case z_sorted => k_is)
    (case z_list => k_is)
    (case z_iter => k_is)
    (case z_NotImplemented => k_is)
    (case z_classmethod => k_is)
    (case z_int => k_is)
    (case z_range => k_is)
    (case z_repr => k_is)
    (case z_min => k_is)
    (case a_Names => k_is)
    (case pg_Names => k_is)
    (case hd_Names => k_is)
    (case po_Names => k_is)
    (case sa_Names => k_is)
    (case mk_Names => k_is)
    (case kc_Names => k_is)
    (case sf_Names => k_is)
    (case ih_Names => k_is)
    (case im_Names => k_is)
    (case ne_Names => k_is)
    (case in_Names => k_is)
    (case it_Names => k_is)
    (case at_Names_paths => k_is)
    (case a_Names_init => k_is)
    (case i_Names_init => k_is)
    (case l_Names_init => k_is)
    (case c_Names_init => k_is)
    (case k_Names_init => k_is)
    (case a_Names_len => k_is)
    (case i_Names_len => k_is)
    (case l_Names_len => k_is)
    (case c_Names_len => k_is)
    (case k_Names_len => k_is)
    (case a_Names_contains => k_is)
    (case i_Names_contains => k_is)
    (case l_Names_contains => k_is)
    (case c_Names_contains => k_is)
    (case k_Names_contains => k_is)
    (case a_Names_eq => k_is)
    (case i_Names_eq => k_is)
    (case l_Names_eq => k_is)
    (case c_Names_eq => k_is)
    (case k_Names_eq => k_is)
    (case a_Names_or => k_is)
    (case i_Names_or => k_is)
    (case l_Names_or => k_is)
    (case c_Names_or => k_is)
    (case k_Names_or => k_is)
    (case a_Names_and => k_is)
    (case i_Names_and => k_is)
    (case l_Names_and => k_is)
    (case c_Names_and => k_is)
    (case k_Names_and => k_is)
    (case a_Names_sub => k_is)
    (case i_Names_sub => k_is)
    (case l_Names_sub => k_is)
    (case c_Names_sub => k_is)
    (case k_Names_sub => k_is)
    (case a_Names_within => k_is)
    (case i_Names_within => k_is)
    (case l_Names_within => k_is)
    (case c_Names_within => k_is)
    (case k_Names_within => k_is)
    (case rd_Names_gathered => k_is)
    (case rg_Names_gathered => k_is)
    (case ra_Names_gathered => k_is)
    (case rc_Names_gathered => k_is)
    (case rf_Names_gathered => k_is)
    (case l_Names_gathered => k_is)
    (case c_Names_gathered => k_is)
    (case k_Names_gathered => k_is)
#print axioms PySem.Challenge.cw_sparenames_k04_whole_sets_joined_holds

