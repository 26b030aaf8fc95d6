import PyProof.Rows.All
import Wide.All
import OpenK.AllK
import Wide.FinOn
import HandS.ForMost
import HandS.IsInst
import HandS.Flow
import HandS.Walk
import HandS.Codes
import PyProof.TupleOfStr
import PyProof.ReprRoads
import PySem.Challenge.RW_sparenames_k02_words_and_names
set_option Elab.async false
set_option linter.all false
set_option maxRecDepth 100000
set_option maxHeartbeats 4000000
/-! ## A small layer of our own over HandS: defs whose callers have no repr under way (guards), repr of data, tuple(text) -/
namespace Sn
open PySem PySem.Spec PyProof.Rows L2

/-! ### a def's promise where no repr is under way -/
section
variable {P : Program} {w : World} {K : PySem.W.Frag} {mg : Str → Option Value} {base : Heap} {CX : CXT}
structure FnG (P : Program) (w : World) (K : PySem.W.Frag) (mg : Str → Option Value)
    (base : Heap) (CX : CXT) (k : Nat) (f : Addr) (fd : FuncData) (ps : List Str) (sp : Sp) : Prop where
  leng : ∀ xs H Q E, sp xs H Q E → xs.length = ps.length
  runs : ∀ (A : Around) (fr : List Env) (s : Shared) (H : Hp) (ar : Args) (us : List Value) (xs : List V) (Q : VK) (E : XK),
    A.guards = some [] → Room k A → Env0 P w K mg base A fr s H → BindsTo s fd ar (ps.zip us) → Vals xs us → sp xs H Q E →
    codeAny (model P w) A (.call (.ref f) ar) (CR CX fr P w H s Q E) s
theorem FnG.of {k : Nat} {f : Addr} {fd : FuncData} {ps : List Str} {sp : Sp}
    (F : FnOk P w K mg base CX k f fd ps sp) : FnG P w K mg base CX k f fd ps sp :=
  ⟨F.len, fun A fr s H ar us xs Q E _ a b c d e => F.run A fr s H ar us xs Q E a b c d e⟩
theorem fnG_of {k : Nat} {f : Addr} {nm ql : Str} {pa : Arguments} {bd : List Stmt} {sc : Scope}
    {dV kV dc pm cd ct oc : Value} {an od : Option Addr} {sl : Array (Option Value)} {N ps : List Str} {sp : Sp}
    (lk : K.lookup f = some ⟨oc, od, .func (PySem.W.fnOf nm ql pa bd sc dV kV dc pm an cd ct), sl⟩)
    (hc : PySem.W.codeIn K cd ql = true) (S : FnScope N ps sc) (leng : ∀ xs H Q E, sp xs H Q E → xs.length = ps.length)
    (hb : ∀ (A : Around) (fr : List Env) (s : Shared) (H : Hp) (xs : List V) (Q : VK) (E : XK),
      (A.deeper (envOfC ql sc s.heap.objs.size f cd)).guards = some [] → Room k (A.deeper (envOfC ql sc s.heap.objs.size f cd)) →
      sp xs H Q E → ∃ t, PSs (cxOf CX P w K mg base N ql sc f cd A fr s H E) bd t ∧
        t { nx := fun _ H' => Q .non H', rt := Q } (start N xs) H) :
    FnG P w K mg base CX (k + 1) f (PySem.W.fnOf nm ql pa bd sc dV kV dc pm an cd ct) ps sp := by
  refine ⟨leng, ?_⟩
  intro A fr s H ar us xs Q E hg hr e0 hbi rv hsp
  have hlen := leng _ _ _ _ hsp
  have kin : K.In s.heap := e0.mod.kin.keeps fun b o q => (e0.bs b o q).1
  have nol : s.heap.NoLimit := e0.mod.nolimit.keeps fun b o q => (e0.bs b o q).1
  have knd : ∀ y ∈ ps.zip us, sc.names.lookup y.1 = some .local ∨ (sc.names.lookup y.1 = some .cell ∧
      ((cellsFrom (s.heap.objs.size + 1) sc.names []).lookup y.1).isSome = true) := by
    rintro ⟨n, v⟩ hy
    exact (S.par n (List.of_mem_zip hy).1).elim .inl fun q => .inr ⟨q, PySem.W.cellsFrom_some _ _ _ (.inl q)⟩
  refine codeAny_call_function hr.depth (kin _ _ lk) rfl S.co S.gen rfl (PySem.W.codeRec_of kin hc) ?_
  refine hbi _ _ _ _ ?_
  refine wpAny_newFunctionEnv_cells S.kind knd ?_
  rintro env rfl s1 x
  refine ⟨nol.keeps x.toInCall.keep, codeAny_func ?_⟩
  obtain ⟨t, ht, hq⟩ := hb A fr s H xs Q E hg (hr.deeper _) hsp
  have J : Inv (cxOf CX P w K mg base N ql sc f cd A fr s H E) [] (start N xs) H s1 :=
    inv_start S hr.hd e0 hlen rv x
  refine wpAny_mono (ht.run [] s1 (start N xs) H _ J hq) ?_ fun e s' z => z
  intro fl s' hs
  match fl, hs with
  | .ret u, ⟨v, σ', H', J', rr, qq⟩ => exact ⟨v, H', J'.os, J'.bare, J'.base, J'.hok, rr, qq⟩
  | .next, ⟨σ', H', J', qq⟩ => exact ⟨V.non, H', J'.os, J'.bare, J'.base, J'.hok, rfl, qq⟩
  | .brk, ⟨_, _, _, qq⟩ => exact False.elim qq
  | .cont, ⟨_, _, _, qq⟩ => exact False.elim qq
theorem okG {x ql : Str} {st : Stmt} {f : Addr} {fd : FuncData} {N ps : List Str} {k : Nat} {sp : Sp}
    (F : Fun K x ql st f fd) (S : FnScope N ps (defScope st)) (leng : ∀ xs H Q E, sp xs H Q E → xs.length = ps.length)
    (hb : ∀ (cd : Value) (A : Around) (fr : List Env) (s : Shared) (H : Hp) (xs : List V) (Q : VK) (E : XK),
      (A.deeper (envOfC ql (defScope st) s.heap.objs.size f cd)).guards = some [] →
      Room k (A.deeper (envOfC ql (defScope st) s.heap.objs.size f cd)) → sp xs H Q E →
      ∃ t, PSs (cxOf CX0 P w K mg base N ql (defScope st) f cd A fr s H E).nox (defBody st) t ∧
        t { nx := fun _ H' => Q .non H', rt := Q } (start N xs) H) :
    FnG P w K mg base CX0 (k + 1) f fd ps sp := by
  obtain ⟨oc, od, kV, dc, pm, an, cd, ct, sl, rfl, lk, hcd⟩ := F.ex
  refine fnG_of lk hcd S leng fun A fr s H xs Q E hg hr h => ?_
  obtain ⟨t, a, b⟩ := hb cd A fr s H xs Q E hg hr h
  exact ⟨t, a.nox, b⟩
end

section
variable {X : Cx} {CX : CXT} {k : Nat} {f : Addr} {fd : FuncData} {ps : List Str} {sp : Sp} {dvs : List V} {ds : List Value}
  {E : XK} {x : Str} {p pos : Pos} {e : Expr} {es : List Expr} {t : TA}
theorem runG {pins : List (Addr × Obj)} {σ : L2.St} {H : Hp} {s : Shared} {Q : VK} {us : List Value} {xs : List V}
    (F : FnG X.prog X.w X.K X.mg X.base CX k f fd ps sp) (hgu : X.A.guards = some []) (hr : Room k X.A)
    (hb : Binds X.K fd ps ds) (hd : Vals dvs ds) (hx : Passes CX X E) (I : Inv X pins σ H s) (r : Vals xs us)
    (h : sp (xs ++ dvs) H Q E) : wpAny (model X.prog X.w) X.A (call (.ref f) us) (EP X pins σ Q) X.xe s := by
  have r2 : Vals (xs ++ dvs) (us ++ ds) := r.append hd
  have hl : (us ++ ds).length = ps.length := r2.length.symm.trans (F.leng _ _ _ _ h)
  refine wpAny_call (codeAny_mono (F.runs X.A X.stack s H ⟨us, []⟩ _ _ Q E hgu hr I.env0 (hb s us I.kIn hl) r2 h) ?_)
  intro r s' hq
  match r, hq with
  | .error e, hq => exact hx pins σ H s e s' I hq
  | .ok (.ret u), hq => exact I.after hq
  | .ok .next, hq => exact False.elim hq
  | .ok .brk, hq => exact False.elim hq
  | .ok .cont, hq => exact False.elim hq
/-- f(e, ..) where no repr is under way -/
theorem pe_callG (F : FnG X.prog X.w X.K X.mg X.base CX k f fd ps sp) (hgu : X.A.guards = some []) (hr : Room k X.A) (hg : Gl X x)
    (hm : X.mg x = some (.ref f)) (hk : PySem.W.keepIn X.K (.ref f) = true) (hb : Binds X.K fd ps ds) (hd : Vals dvs ds)
    (hx : Passes CX X E) (ha : PA X (e :: es) t) (hdb : (x == ("__debug__" : Str)) = false := by decide)
    (he : starEach (e :: es) X.env = (false, eval e X.env) :: starEach es X.env := by rfl)
    (hpl : (backTo pos (starEach es X.env)).any (·.1) = false := by rfl) :
    PE X (.Call (.Name x p) (e :: es) [] pos) (tCall sp dvs E t) := by
  refine ⟨fun pins s σ H Q I h => wpAny_Call_Name_kw (ld_glob I hg hm ?_ hdb)⟩
  refine PySem.W.callWith_K (h₀ := X.base) I.ok.mod.kin hk ?_ he hpl
  refine thn (ha.run pos pins s σ H _ I h) ?_
  rintro us s1 ⟨xs, H1, I1, r, q⟩
  exact ⟨I1.kIn, runG F hgu hr hb hd hx I1 r q⟩

/-- f(k = v, ..), keywords alone -/
theorem pe_callK0 {kws : List Keyword} {tk : TA} {ks : List Str} {g : List Value → List Value → List Value} {gV : List V → List V → List V}
    (F : FnOk X.prog X.w X.K X.mg X.base CX k f fd ps sp) (hr : Room k X.A) (hg : Gl X x) (hm : X.mg x = some (.ref f))
    (hk : PySem.W.keepIn X.K (.ref f) = true) (hb : KBinds X.K fd ps ks g gV) (hx : Passes CX X E) (hkw : PK X kws tk)
    (hall : (backToKw pos (keywordEach kws X.env)).all (·.1.isSome) = true := by rfl)
    (hks : (backToKw pos (keywordEach kws X.env)).filterMap (·.1) = ks := by rfl) (hdb : (x == ("__debug__" : Str)) = false := by decide)
    (hpl : (backToKw pos (keywordEach kws X.env)).any (·.1.isNone) = false := by rfl) :
    PE X (.Call (.Name x p) [] kws pos) (tCallK sp gV E tNil tk) := by
  refine ⟨fun pins s σ H Q I h => wpAny_Call_Name_kw (ld_glob I hg hm ?_ hdb)⟩
  refine PySem.W.callWith_KW0 (h₀ := X.base) I.ok.mod.kin hk hall ?_ hpl
  refine thn (hkw.run pos pins s σ H _ I h) ?_
  rintro ws s2 ⟨zs, H2, I2, rz, q2⟩
  refine ⟨I2.kIn, ?_⟩
  rw [hks]
  exact run_fnk F hr hb hx I2 .nil rz q2
/-- repr of data that stands at an address -/
theorem call_repr (hgu : X.A.guards = some []) (hu : X.A.units + 70 < cLine) : CallR X (.builtin "repr")
    (fun xs H Q => ∃ (a : Addr) (d : PyData), xs = [.ref a] ∧ Dp X.K H (.ref a) d ∧ d.showable = true ∧ d.hasDict = false ∧
      d.depth ≤ 64 ∧ d.shown.length ≤ sizeLine ∧ Q (.str d.shown) H) := by
  intro pins s σ H xs us Q I r h
  obtain ⟨a, d, rfl, hD, hs, hn, hd, hz, q⟩ := h
  obtain ⟨u, rfl, rx⟩ := vals1 r
  obtain ⟨as, rr⟩ := Dp.reads I d _ u hD rx
  cases rx
  refine repr_of_reads' rr hs (fun z => by rw [hn] at z; cases z) hgu (by omega) (fun _ _ z => z) ?_ hz
  intro h' u tk kp
  exact ⟨.str _, H, I.kept kp, ⟨_, rfl⟩, q⟩
/-- tuple(text) -/
theorem call_tupS : CallR X (.type "tuple") (fun xs H Q => ∃ z : Str, xs = [.str z] ∧ X.A.handled = none ∧ z.cps.size ≤ sizeLine ∧
      ∀ l, H l = none → Q (.ref l) (upd H l (.tup (z.cps.toList.map fun c => V.str ⟨#[c]⟩)))) := by
  intro pins s σ H xs us Q I r h
  obtain ⟨z, rfl, hh, hz, q⟩ := h
  obtain ⟨u, rfl, t, rfl⟩ := vals1 r
  refine call_tuple_str hh z t ?_ hz
  intro h' tk acc kp hacc
  have I1 : Inv X pins σ H { s with heap := h', toks := tk } := I.kept kp
  have rv : Vals (z.cps.toList.map fun c => V.str ⟨#[c]⟩) acc.toList := by
    have key : ∀ (cs : List Nat) (us : List Value), us.length = cs.length →
        (∀ (j : Nat) (v : Value), us[j]? = some v → ∃ c u, cs[j]? = some c ∧ v = Value.str ⟨#[c]⟩ u) → Vals (cs.map fun c => V.str ⟨#[c]⟩) us := by
      intro cs
      induction cs with
      | nil =>
        intro us hl _
        match us, hl with
        | [], _ => exact .nil
      | cons c cs ih =>
        intro us hl hv
        match us, hl with
        | u :: us, hl =>
          obtain ⟨c', w', e1, e2⟩ := hv 0 u rfl
          cases e1
          exact .cons ⟨w', e2⟩ (ih us (by simpa using hl) fun j v hj => hv (j + 1) v hj)
    refine key _ _ (by simpa using hacc.1) fun j v hj => ?_
    obtain ⟨c, u, e1, e2⟩ := hacc.2 j v (by simpa using hj)
    exact ⟨c, u, by simpa using e1, e2⟩
  refine ⟨.ref h'.objs.size, _, I1.laid (t' := tk) (fun b o e => Heap.get?_push_of_some _ e) (Nat.le_refl _) ?_, rfl, q _ (I1.hok.fresh (Nat.le_refl _))⟩
  refine (show ObjOk X.prog X.w _ _ _ (.tup _) from ⟨by simpa using hz, acc.toList, rv, ?_⟩)
  rw [show acc.toList.toArray = acc from by simp]
  exact ⟨_, Heap.get?_push_size _ rfl, rfl, _, rfl⟩
end

theorem hu70 {A : Around} {k : Nat} (hr : Room k A) : A.units + 70 < cLine := by have := hr.un; omega
/-! ### the law's end: the caller has no repr under way -/
theorem law_callG {P : Program} {w : World} {K : PySem.W.Frag} {mg mb : Str → Option Value} {CX : CXT} {k : Nat}
    {fa a : Addr} {fd : FuncData} {x : Str} {sp : Sp} {s₁ : Shared} {us : List Value} {ns : List Int}
    (kin : K.In s₁.heap) (hns : s₁.heap.Ns mainGlobals mg) (hbn : s₁.heap.Ns builtinsNs mb)
    (hbb : ∀ x : Str, x ≠ "__name__" → mb x = bootBuiltins x) (nol : s₁.heap.NoLimit) (hge : s₁.gens = #[])
    (ha : s₁.heap.get? a = some { cls := .type "list", data := .seq us.toArray }) (hi : IntsAre us ns)
    (hl : ns.length ≤ sizeLine) (hr : Room k callerA)
    (F : ∀ base : Heap, K.In base → base.Ns mainGlobals mg → FnG P w K mg base CX k fa fd [x] sp)
    (hbi : ∀ (s : Shared) (u : Value), BindsTo s fd ⟨[u], []⟩ [(x, u)])
    (hsp : ∀ H : Hp, Only H → SqL K H a (ns.map V.int) → sp [.ref a] H (fun v _ => v = .bl true) fun _ _ _ => False)
    (hCX : ∀ H e s', CX [] H s₁ (fun _ _ _ => False) e s' → False) :
    codeAny (model P w) callerA (.call (.ref fa) ⟨[.ref a], []⟩)
      (fun r s' => r = .ok (.ret (.bool true)) ∧ OldK s₁.heap s'.heap ∧ s'.os = s₁.os ∧ AllBare s'.gens) s₁ := by
  have rv := vals_ints hi
  have main : ∀ H : Hp, Only H → SqL K H a (ns.map V.int) → HOk P w H s₁.heap → (∀ b, H b ≠ none → b = a) →
      (H a ≠ none → K.lookup a = none) → codeAny (model P w) callerA (.call (.ref fa) ⟨[.ref a], []⟩)
      (fun r s' => r = .ok (.ret (.bool true)) ∧ OldK s₁.heap s'.heap ∧ s'.os = s₁.os ∧ AllBare s'.gens) s₁ := by
    intro H hO hS hok hA hK
    have only : ∀ {b : Addr} {u : HO}, H b = some u → b = a := fun {b u} q => hA b (by rw [q]; simp)
    have nodict : ∀ {b : Addr} {o : Obj} {es : Array DictEntry} {ep : Nat}, s₁.heap.get? b = some o → o.data = .dict es ep → H b = none := by
      intro b o es ep q d
      cases hq : H b with
      | none => rfl
      | some u =>
        cases only hq
        rw [ha] at q; cases q; cases d
    have ns2 : ∀ {b : Addr} {m : Str → Option Value}, s₁.heap.Ns b m → (hidT s₁.heap H).Ns b m := by
      rintro b m ⟨o, es, ep, q, d, r⟩
      exact ⟨o, es, ep, hidT_get q (nodict q d), d, r⟩
    have kb : K.In (hidT s₁.heap H) := by
      intro b o q
      refine hidT_get (kin b o q) ?_
      cases hq : H b with
      | none => rfl
      | some u =>
        cases only hq
        rw [hK (by rw [hq]; simp)] at q; cases q
    obtain ⟨mc, h1, h2⟩ := nol
    have e0 : Env0 P w K mg (hidT s₁.heap H) callerA [] s₁ H :=
      { frames := rfl, mod := ⟨kb, ns2 hns, ⟨mb, ns2 hbn, hbb⟩, ⟨mc, ns2 h1, h2⟩⟩, bs := fun b o q => of_hidT q
        bsz := Nat.le_of_eq (hidT_size _ _), funs := trivial, frf := (fun b z => nomatch z), hok := hok, bare := .of_eq hge }
    refine codeAny_mono ((F _ kb (ns2 hns)).runs callerA [] s₁ H ⟨[.ref a], []⟩ [.ref a] [.ref a] _ _ rfl hr e0 (hbi s₁ (.ref a)) (.cons rfl .nil) (hsp H hO hS)) ?_
    intro r s' h
    match r, h with
    | .error e, h => exact (hCX H e s' h).elim
    | .ok .next, h => exact False.elim h
    | .ok .brk, h => exact False.elim h
    | .ok .cont, h => exact False.elim h
    | .ok (.ret u), ⟨v, H', os, bare, un, hok', rr, q⟩ =>
      have q1 : v = .bl true := q
      subst q1
      have q2 : u = Value.bool true := rr
      subst q2
      refine ⟨rfl, OldK.of_keep ?_, os, bare⟩
      intro b o e
      cases hq : H b with
      | none => exact un.keep b o e hq (fun z => nomatch z) (fun z => nomatch z)
      | some u =>
        rcases hO b with z | ⟨ob, xs, z⟩
        · rw [hq] at z; cases z
        · have e1 := (hok b _ z).1
          have e2 := (hok' b _ (un.frzs b ob _ z)).1
          rw [e] at e1; cases e1
          exact e2
  have lenV := hi.length
  cases hk : K.lookup a with
  | some o =>
    have e := kin a o hk
    rw [ha] at e
    cases e
    refine main (fun _ => none) (fun _ => .inl rfl) (.inr ⟨_, us.toArray, _, hk, rfl, rfl, rfl, ?_, by simpa using rv⟩) (fun b u z => nomatch z) (fun b z => absurd rfl z) fun z => absurd rfl z
    rw [List.size_toArray, lenV]; exact hl
  | none =>
    have only1 : ∀ b, ¬ b = a → (if b = a then some (HO.frz { cls := .type "list", data := .seq us.toArray } (.lst (ns.map V.int))) else none) = none := fun b h => if_neg h
    refine main (fun b => if b = a then some (.frz { cls := .type "list", data := .seq us.toArray } (.lst (ns.map V.int))) else none) ?_ (.inl (.inr ⟨_, if_pos rfl⟩)) ?_ ?_ fun _ => hk
    · intro b
      by_cases hb : b = a
      · exact .inr ⟨_, _, if_pos hb⟩
      · exact .inl (if_neg hb)
    · intro b u z
      by_cases hb : b = a
      · have z2 := (if_pos hb).symm.trans z
        cases z2
        subst hb
        exact ⟨ha, by rw [List.length_map]; exact hl, us, _, rv, ha⟩
      · have z2 := (if_neg hb).symm.trans z
        cases z2
    · intro b z
      exact Decidable.byContradiction fun hb => z (if_neg hb)
theorem walkG {l : PySem.W.OpenLaw} {n k : Nat} {q : Program} {loose : List Str} {XP : (Str → Option Value) → Heap → Prop}
    {YP : World → Heap → Prop} {d : DefRec} {K : Params → PySem.W.Frag} {CX : World → CXT} {sp : World → Sp} {x : Str}
    (hn : l.most = some n) (hn2 : n ≤ sizeLine) (hdf : d.params.defaults = []) (hr : Room k callerA)
    (hY : ∀ (w : World) (h : Heap), YP w h → (K w.params).In h)
    (F : ∀ (w : World) (mg : Str → Option Value) (fa : Addr) (h : Heap), (K w.params).In h → h.Ns mainGlobals mg →
      mg d.name = some (.ref fa) → ∃ fd : FuncData, (∀ (s : Shared) (u : Value), BindsTo s fd ⟨[u], []⟩ [(x, u)]) ∧
        ∀ base : Heap, (K w.params).In base → base.Ns mainGlobals mg → FnG l.prog w (K w.params) mg base (CX w) k fa fd [x] (sp w))
    (hsp : ∀ (w : World) (H : Hp) (a : Addr) (ns : List Int), ns.length ≤ n → Only H → SqL (K w.params) H a (ns.map V.int) →
      sp w [.ref a] H (fun v _ => v = .bl true) fun _ _ _ => False)
    (hCX : ∀ (w : World) (H : Hp) (s : Shared) (e : Value) (s' : Shared), CX w [] H s (fun _ _ _ => False) e s' → False) :
    PySem.W.WalkO q loose XP YP l.row.toRowW d [] (fun f vs => PySem.call f vs) := by
  refine Att.attach_call hn hdf ?_
  intro w s₀ s₁ mg mb fa o pm cd doc a us ns G Y ho hd hcd hmg hobj hints hlen hg
  have kin := hY w _ Y
  obtain ⟨fd, hb, hF⟩ := F w mg fa _ kin G.T.g hmg
  exact law_callG kin G.T.g G.T.b G.T.builtins G.T.nolimit hg hobj hints (Nat.le_trans hlen hn2) hr hF hb
    (fun H hO hS => hsp w H a ns hlen hO hS) fun H e s' => hCX w H s₁ e s'
end Sn

/-! ## Words, names and paths, in plain Lean -/
namespace Sn
open PySem PySem.Spec PyProof.Rows L2 TL

def sgnS : Str := "abcdefghijklmnopqrstuvwxyz0123456789_"
def letS : Str := "abcdefghijklmnopqrstuvwxyz"
def resv : List Str := ["as", "ask", "call", "def", "each", "else", "entry", "except", "fail", "if", "in", "let", "offer", "return",
  "set", "table", "there", "try", "use"]
/-- a word: at most eight signs, all of them out of the alphabet -/
def isW (z : Str) : Bool := decide (z.length ≤ 8) && (tl z).all fun c => decide (c ∈ tl sgnS)
/-- its first sign is a letter -/
def fstL (z : Str) : Bool := match tl z with
  | [] => false
  | c :: _ => decide (c ∈ tl letS)
def isN (z : Str) : Bool := isW z && (fstL z && !decide (z ∈ resv))
def isP (z : Str) : Bool := decide ((Txt.split z ".").length = 2) && (Txt.split z ".").all isN

/-! ### a value that is one of some texts -/
theorem inV_strs (z : Str) : ∀ l : List Str, inV (.str z) (l.map V.str) = decide (z ∈ l)
  | [] => rfl
  | x :: l => by
    show ((x == z) || inV (.str z) (l.map V.str)) = _
    rw [inV_strs z l]
    by_cases h : z = x
    · subst h; simp
    · have h2 : (x == z) = false := by simpa using fun e => h e.symm
      rw [h2, Bool.false_or]
      exact decide_eq_decide.mpr ⟨fun q => List.mem_cons.mpr (.inr q), fun q => (List.mem_cons.mp q).resolve_left h⟩
theorem flat_strs : ∀ l : List Str, (l.map V.str).all flatV = true
  | [] => rfl
  | x :: l => by
    show (true && (l.map V.str).all flatV) = true
    rw [flat_strs l]; rfl
theorem signs_map (l : List Nat) : (l.map fun c => V.str ⟨#[c]⟩) = ((l.map fun c => (⟨#[c]⟩ : Str)).map V.str) := by
  rw [List.map_map]; rfl
theorem cut1 (z : Str) : tl (cutS z none (some 1)) = (tl z).take 1 := by
  unfold cutS
  rw [show HT.sIx z.length z.length (some 1) = min 1 z.length from HT.sIx_nat _ _ 1, HT.sIx_none]
  show ((tl z).drop 0).take (min 1 z.length - 0) = _
  rw [List.drop_zero, Nat.sub_zero, len_tl, List.take_eq_take_iff]
  omega
theorem one_inj {c : Nat} {l : List Nat} : (⟨#[c]⟩ : Str) ∈ l.map (fun c => (⟨#[c]⟩ : Str)) ↔ c ∈ l := by
  constructor
  · intro h
    obtain ⟨x, hx, e⟩ := List.mem_map.mp h
    injection e with e
    have : x = c := by injection (congrArg Array.toList e)
    exact this ▸ hx
  · intro h; exact List.mem_map.mpr ⟨c, h, rfl⟩
/-- value[:1] in tuple(LETTERS) -/
theorem fst_in (z : Str) : inV (.str (cutS z none (some 1))) ((tl letS).map fun c => V.str ⟨#[c]⟩) = fstL z := by
  rw [signs_map, inV_strs]
  unfold fstL
  have h := cut1 z
  match e : tl z with
  | [] =>
    rw [e] at h
    rw [decide_eq_false_iff_not]
    intro hm
    obtain ⟨x, _, e2⟩ := List.mem_map.mp hm
    rw [← e2] at h
    cases h
  | c :: r =>
    rw [e] at h
    have e2 : cutS z none (some 1) = ⟨#[c]⟩ := ext_tl h
    rw [e2]
    exact decide_eq_decide.mpr one_inj

/-! ### the two readings of a path -/
theorem spl_ne (S : List Nat) : ∀ (l : List Nat) (k : Nat) (acc : List Nat), spl S k acc l ≠ []
  | [], k, acc => by rw [spl_nil]; simp
  | c :: r, 0, acc => by
    unfold spl
    split
    · simp
    · exact spl_ne S r 0 _
  | c :: r, k + 1, acc => by
    unfold spl
    exact spl_ne S r k acc
theorem cut_at {x : Nat} : ∀ {l : List Nat}, x ∈ l → ∃ a b, l = a ++ x :: b ∧ x ∉ a
  | y :: l, h => by
    by_cases e : x = y
    · exact ⟨[], l, by rw [e]; rfl, by simp⟩
    · have h2 : x ∈ l := by
        rcases List.mem_cons.mp h with q | q
        · exact absurd q e
        · exact q
      obtain ⟨a, b, e1, e2⟩ := cut_at h2
      exact ⟨y :: a, b, by rw [e1]; rfl, by
        intro q
        rcases List.mem_cons.mp q with q | q
        · exact e q
        · exact e2 q⟩
def dotS : Str := "."
theorem tl_dot : tl dotS = [46] := by decide +kernel
theorem dot_eq : dotS = ⟨#[46]⟩ := by decide +kernel
theorem split_tl (z : Str) : (Txt.split z dotS).map tl = spl [46] 0 [] (tl z) := by
  have h := split_spl z dotS (by rw [tl_dot]; simp) (kind_ok (by decide +kernel))
  rw [tl_dot] at h
  exact h
theorem spl_le (S : List Nat) : ∀ (l : List Nat) (k : Nat) (acc q : List Nat), q ∈ spl S k acc l → q.length ≤ acc.length + l.length
  | [], k, acc, q, h => by
    rw [spl_nil] at h
    rw [List.mem_singleton.mp h]; simp
  | c :: r, 0, acc, q, h => by
    unfold spl at h
    split at h
    · rcases List.mem_cons.mp h with h | h
      · rw [h]; simp
      · have := spl_le S r _ _ q h
        simp only [List.length_nil, List.length_cons] at this ⊢
        omega
    · have := spl_le S r _ _ q h
      simp only [List.length_append, List.length_cons, List.length_nil] at this ⊢
      omega
  | c :: r, k + 1, acc, q, h => by
    unfold spl at h
    have := spl_le S r _ _ q h
    simp only [List.length_cons]
    omega
theorem split_le (z : Str) : ∀ y ∈ Txt.split z dotS, y.length ≤ z.length := by
  intro y hy
  have h : tl y ∈ spl [46] 0 [] (tl z) := by
    rw [← split_tl]
    exact List.mem_map.mpr ⟨y, hy, rfl⟩
  have := spl_le _ _ _ _ _ h
  rw [len_tl, len_tl z]
  simpa using this
theorem split_no {z : Str} (h : 46 ∉ tl z) : Txt.split z dotS = [z] := by
  apply map_tl_inj
  rw [split_tl, spl_last1 h]
  rfl
theorem split_one {z : Str} {a b : List Nat} (e : tl z = a ++ 46 :: b) (h : 46 ∉ a) :
    (Txt.split z dotS).map tl = a :: spl [46] 0 [] b := by
  rw [split_tl, e]
  exact spl_part1 (s := 46) (S := []) (p := a) (rest := b) (acc := []) h
theorem find_dot {z : Str} {a b : List Nat} (e : tl z = a ++ 46 :: b) (h : 46 ∉ a) : Txt.find z dotS = (a.length : Int) := by
  have ne : tl dotS ≠ [] := by rw [tl_dot]; simp
  have hit : StrLaws.At z dotS z.length a.length := by
    refine (at_iff ne _).mpr ?_
    rw [tl_dot, e, List.drop_left]
    show (List.take 1 (46 :: b) == [46]) = true
    simp
  have miss : ∀ k, k < a.length → ¬ StrLaws.At z dotS z.length k := by
    intro k hk hA
    have q := (at_iff ne k).mp hA
    rw [tl_dot, e, free_of h k hk] at q
    cases q
  rcases find_whole z dotS with ⟨_, h2⟩ | ⟨i, h1, h2, h3⟩
  · exact absurd hit (h2 _)
  · rw [h1]
    by_cases hlt : i < a.length
    · exact absurd h2 (miss i hlt)
    · by_cases hgt : a.length < i
      · exact absurd hit (h3 _ hgt)
      · rw [show i = a.length by omega]
theorem cut_lo {z : Str} {a b : List Nat} (e : tl z = a ++ 46 :: b) : tl (cutS z none (some (a.length : Int))) = a := by
  unfold cutS
  rw [HT.sIx_nat, HT.sIx_none]
  show ((tl z).drop 0).take (min a.length z.length - 0) = a
  rw [len_tl, e, List.drop_zero, Nat.sub_zero, List.length_append, Nat.min_eq_left (Nat.le_add_right _ _), List.take_left]
theorem cut_hi {z : Str} {a b : List Nat} (e : tl z = a ++ 46 :: b) : tl (cutS z (some ((a.length : Int) + 1)) none) = b := by
  unfold cutS
  rw [show ((a.length : Int) + 1) = ((a.length + 1 : Nat) : Int) from rfl, HT.sIx_nat, HT.sIx_none]
  show ((tl z).drop (min (a.length + 1) z.length)).take (z.length - min (a.length + 1) z.length) = b
  rw [len_tl, e]
  have hl : min (a.length + 1) (a ++ 46 :: b).length = a.length + 1 := by
    rw [List.length_append, List.length_cons]; omega
  rw [hl, show a ++ 46 :: b = (a ++ [46]) ++ b by simp]
  have h2 : (a ++ [46]).length = a.length + 1 := by simp
  rw [← h2, List.drop_left, List.length_append, Nat.add_sub_cancel_left, List.take_length]
theorem cnt_app (c : Nat) : ∀ l r : List Nat, cnt c (l ++ r) = cnt c l + cnt c r := cnt_append c
/-- the law's own reading of a path -/
def lawP (z : Str) : Bool := if Txt.count z dotS = 1 then isN (cutS z none (some (Txt.find z dotS))) && isN (cutS z (some (Txt.find z dotS + 1)) none) else false
theorem cnt_nonneg (c : Nat) : ∀ l : List Nat, 0 ≤ cnt c l
  | [] => by rw [cnt_nil]; exact Int.le_refl 0
  | x :: l => by
    have h := cnt_nonneg c l
    rw [cnt_cons]
    split <;> omega
theorem cnt_free {c : Nat} {l : List Nat} (h : c ∉ l) : cnt c l = 0 := cnt_none c l h
theorem cnt_dot : cnt 46 [46] = 1 := by rw [cnt_cons, cnt_nil]; simp
theorem path_law (z : Str) : lawP z = isP z := by
  unfold lawP isP
  rw [show (Str.ofString "." : Str) = dotS from rfl]
  have hc : Txt.count z dotS = cnt 46 (tl z) := by rw [dot_eq]; exact count_cnt z 46
  by_cases h : 46 ∈ tl z
  · obtain ⟨a, b, e, na⟩ := cut_at h
    have c1 : cnt 46 (tl z) = 1 + cnt 46 b := by
      rw [e, show a ++ 46 :: b = a ++ ([46] ++ b) from rfl, cnt_app, cnt_app, cnt_free na, cnt_dot]
      omega
    have sp := split_one e na
    by_cases hb : 46 ∈ b
    · obtain ⟨b1, b2, e2, nb⟩ := cut_at hb
      have c2 : cnt 46 b = 1 + cnt 46 b2 := by
        rw [e2, show b1 ++ 46 :: b2 = b1 ++ ([46] ++ b2) from rfl, cnt_app, cnt_app, cnt_free nb, cnt_dot]
        omega
      have := cnt_nonneg 46 b2
      rw [if_neg (by omega)]
      have sp2 : spl [46] 0 [] b = b1 :: spl [46] 0 [] b2 := by
        rw [e2]
        exact spl_part1 (s := 46) (S := []) (p := b1) (rest := b2) (acc := []) nb
      have hl : (Txt.split z dotS).length ≠ 2 := by
        intro q
        have q2 := congrArg List.length sp
        rw [List.length_map, q, sp2] at q2
        have q3 : (spl [46] 0 [] b2).length = 0 := by
          simp only [List.length_cons] at q2
          omega
        exact spl_ne _ _ _ _ (List.length_eq_zero_iff.mp q3)
      rw [decide_eq_false hl, Bool.false_and]
    · have c2 : cnt 46 b = 0 := cnt_free hb
      rw [if_pos (by omega), find_dot e na]
      have sp2 : spl [46] 0 [] b = [b] := spl_last1 (s := 46) (S := []) (p := b) (acc := []) hb
      have e1 : Txt.split z dotS = [cutS z none (some (a.length : Int)), cutS z (some ((a.length : Int) + 1)) none] := by
        apply map_tl_inj
        rw [sp, sp2]
        show [a, b] = [tl _, tl _]
        rw [cut_lo e, cut_hi e]
      rw [e1]
      simp
  · have c0 : cnt 46 (tl z) = 0 := cnt_free h
    rw [if_neg (by omega), split_no h]
    rfl

/-! ### drawn names -/
def sufS : List Str := ["s", "_", "1", "a"]
theorem near_ok : ∀ r ∈ resv, ∀ x ∈ sufS, isN (r ++ x) = true := by decide +kernel
theorem resv_len : ∀ r ∈ resv, r.length ≤ 6 := by decide +kernel
theorem suf_len : ∀ r ∈ sufS, r.length ≤ 1 := by decide +kernel
theorem resv_no : ∀ r ∈ resv, 95 ∉ tl r := by decide +kernel
theorem let_sgn : ∀ c ∈ tl letS, c ∈ tl sgnS := by decide +kernel
theorem und_sgn : 95 ∈ tl sgnS := by decide +kernel
theorem isN_len {z : Str} (h : isN z = true) : z.length ≤ 8 := by
  unfold isN isW at h
  simp only [Bool.and_eq_true, decide_eq_true_eq] at h
  exact h.1.1
theorem isN_res {z : Str} (h : isN z = true) : z ∉ resv := by
  unfold isN at h
  simp only [Bool.and_eq_true, Bool.not_eq_true', decide_eq_false_iff_not] at h
  exact h.2.2
theorem isN_of {z : Str} {c : Nat} {r : List Nat} (e : tl z = c :: r) (hc : c ∈ tl letS) (hr : ∀ x ∈ r, x ∈ tl sgnS) (hl : r.length ≤ 7) (hn : z ∉ resv) : isN z = true := by
  have h1 : isW z = true := by
    unfold isW
    rw [len_tl, e]
    simp only [Bool.and_eq_true, decide_eq_true_eq, List.length_cons, List.all_cons, List.all_eq_true]
    exact ⟨by omega, let_sgn c hc, hr⟩
  have h2 : fstL z = true := by
    unfold fstL
    rw [e]
    exact decide_eq_true hc
  unfold isN
  rw [h1, h2, decide_eq_false hn]; rfl
theorem cut7 (z : Str) : tl (cutS z none (some 7)) = (tl z).take 7 := by
  unfold cutS
  rw [show HT.sIx z.length z.length (some 7) = min 7 z.length from HT.sIx_nat _ _ 7, HT.sIx_none]
  show ((tl z).drop 0).take (min 7 z.length - 0) = _
  rw [List.drop_zero, Nat.sub_zero, len_tl, List.take_eq_take_iff]
  omega
theorem isN_cut {z : Str} {c : Nat} {r : List Nat} (e : tl z = c :: r) (hc : c ∈ tl letS) (hr : ∀ x ∈ r, x ∈ tl sgnS) : isN (cutS z none (some 7) ++ "_") = true := by
  have e2 : tl (cutS z none (some 7) ++ "_") = c :: (r.take 6 ++ [95]) := by
    rw [tl_append, cut7, e, show tl ("_" : Str) = [95] by decide +kernel]; rfl
  refine isN_of e2 hc (fun x hx => ?_) (by rw [List.length_append, List.length_take]; show min 6 r.length + 1 ≤ 7; omega) fun hm => ?_
  · rcases List.mem_append.mp hx with h | h
    · exact hr x (List.mem_of_mem_take h)
    · rw [List.mem_singleton.mp h]; exact und_sgn
  · exact resv_no _ hm (by rw [e2]; simp)
theorem join_signs : ∀ l : List Nat, tl (Txt.join "" (l.map fun c => (⟨#[c]⟩ : Str))) = l := by
  intro l
  rw [join_eq, tl_join, List.map_map]
  have e : tl ("" : Str) = [] := by decide +kernel
  rw [e]
  have key : ∀ l : List Nat, joinL [] (l.map (tl ∘ fun c => (⟨#[c]⟩ : Str))) = l := by
    intro l
    induction l with
    | nil => rfl
    | cons a r ih =>
      cases r with
      | nil => rfl
      | cons b r =>
        show [a] ++ ([] ++ joinL [] _) = a :: b :: r
        rw [List.nil_append]
        exact congrArg (a :: ·) ih
  exact key l
end Sn

namespace Sn
open PySem PySem.Spec PyProof.Rows L2
def top (i : Nat) : Stmt := PySem.Challenge.pw_sparenames_k02_words_and_names.main.body.getD i (.Pass ⟨0, 0, 0, 0⟩)
abbrev s_is_word : Stmt := top 5
abbrev s_is_name : Stmt := top 6
abbrev s_is_path : Stmt := top 7
abbrev s_law_begun : Stmt := top 9
abbrev s_law_mixed : Stmt := top 10
abbrev s_law_take : Stmt := top 11
abbrev s_law_pick : Stmt := top 12
abbrev s_law_reserved : Stmt := top 13
abbrev s_law_any_word : Stmt := top 14
abbrev s_law_any_name : Stmt := top 15
abbrev s_law_is_word : Stmt := top 16
abbrev s_law_is_name : Stmt := top 17
abbrev s_law_is_path : Stmt := top 18
abbrev s_law_spoilt : Stmt := top 19
abbrev s_law_drawn : Stmt := top 20
abbrev s_law : Stmt := top 21
abbrev n_is_word : List Str := ["value", "sign"]
theorem sc_is_word : FnScope n_is_word ["value"] (defScope s_is_word) := ⟨rfl, rfl, rfl, by decide +kernel, rfl, by decide +kernel, by decide +kernel⟩
abbrev n_is_name : List Str := ["value"]
theorem sc_is_name : FnScope n_is_name ["value"] (defScope s_is_name) := ⟨rfl, rfl, rfl, by decide +kernel, rfl, by decide +kernel, by decide +kernel⟩
abbrev n_is_path : List Str := ["value", "parts", "part"]
theorem sc_is_path : FnScope n_is_path ["value"] (defScope s_is_path) := ⟨rfl, rfl, rfl, by decide +kernel, rfl, by decide +kernel, by decide +kernel⟩
abbrev n_law_begun : List Str := ["_law_script", "_law_great", "_law_cell"]
theorem sc_law_begun : FnScope n_law_begun ["_law_script"] (defScope s_law_begun) := ⟨rfl, rfl, rfl, by decide +kernel, rfl, by decide +kernel, by decide +kernel⟩
abbrev n_law_mixed : List Str := ["_law_state", "_law_found", "_law_prime", "_law_blend", "_law_cell"]
theorem sc_law_mixed : FnScope n_law_mixed ["_law_state"] (defScope s_law_mixed) := ⟨rfl, rfl, rfl, by decide +kernel, rfl, by decide +kernel, by decide +kernel⟩
abbrev n_law_take : List Str := ["_law_state", "_law_size", "_law_found"]
theorem sc_law_take : FnScope n_law_take ["_law_state", "_law_size"] (defScope s_law_take) := ⟨rfl, rfl, rfl, by decide +kernel, rfl, by decide +kernel, by decide +kernel⟩
abbrev n_law_pick : List Str := ["_law_state", "_law_some"]
theorem sc_law_pick : FnScope n_law_pick ["_law_state", "_law_some"] (defScope s_law_pick) := ⟨rfl, rfl, rfl, by decide +kernel, rfl, by decide +kernel, by decide +kernel⟩
abbrev n_law_reserved : List Str := ["_law_words"]
theorem sc_law_reserved : FnScope n_law_reserved [] (defScope s_law_reserved) := ⟨rfl, rfl, rfl, by decide +kernel, rfl, by decide +kernel, by decide +kernel⟩
abbrev n_law_any_word : List Str := ["_law_state", "_law_least", "_law_most", "_law_signs", "_law_turn"]
theorem sc_law_any_word : FnScope n_law_any_word ["_law_state", "_law_least", "_law_most"] (defScope s_law_any_word) := ⟨rfl, rfl, rfl, by decide +kernel, rfl, by decide +kernel, by decide +kernel⟩
abbrev n_law_any_name : List Str := ["_law_state", "_law_near", "_law_word"]
theorem sc_law_any_name : FnScope n_law_any_name ["_law_state"] (defScope s_law_any_name) := ⟨rfl, rfl, rfl, by decide +kernel, rfl, by decide +kernel, by decide +kernel⟩
abbrev n_law_is_word : List Str := ["_law_worth", "_law_signs", "_law_sign"]
theorem sc_law_is_word : FnScope n_law_is_word ["_law_worth"] (defScope s_law_is_word) := ⟨rfl, rfl, rfl, by decide +kernel, rfl, by decide +kernel, by decide +kernel⟩
abbrev n_law_is_name : List Str := ["_law_worth"]
theorem sc_law_is_name : FnScope n_law_is_name ["_law_worth"] (defScope s_law_is_name) := ⟨rfl, rfl, rfl, by decide +kernel, rfl, by decide +kernel, by decide +kernel⟩
abbrev n_law_is_path : List Str := ["_law_worth", "_law_spot"]
theorem sc_law_is_path : FnScope n_law_is_path ["_law_worth"] (defScope s_law_is_path) := ⟨rfl, rfl, rfl, by decide +kernel, rfl, by decide +kernel, by decide +kernel⟩
abbrev n_law_spoilt : List Str := ["_law_state", "_law_worth", "_law_signs", "_law_way", "_law_at", "_law_sign"]
theorem sc_law_spoilt : FnScope n_law_spoilt ["_law_state", "_law_worth"] (defScope s_law_spoilt) := ⟨rfl, rfl, rfl, by decide +kernel, rfl, by decide +kernel, by decide +kernel⟩
abbrev n_law_drawn : List Str := ["_law_state", "_law_way", "_law_bends", "_law_odd", "_law_worth", "_law_house", "_law_turn"]
theorem sc_law_drawn : FnScope n_law_drawn ["_law_state"] (defScope s_law_drawn) := ⟨rfl, rfl, rfl, by decide +kernel, rfl, by decide +kernel, by decide +kernel⟩
abbrev n_law : List Str := ["_law_script", "_law_state", "_law_turn", "_law_worth", "_law_due"]
theorem sc_law : FnScope n_law ["_law_script"] (defScope s_law) := ⟨rfl, rfl, rfl, by decide +kernel, rfl, by decide +kernel, by decide +kernel⟩
/-- what the top has left: the defs, the constants, the names that are still built in -/
structure Txt (K : PySem.W.Frag) (mg : Str → Option Value) where
  f_is_word : Addr
  fd_is_word : FuncData
  F_is_word : Fun K "is_word" "is_word" s_is_word f_is_word fd_is_word
  g_is_word : mg "is_word" = some (.ref f_is_word)
  b_is_word : Binds K fd_is_word ["value"] []
  f_is_name : Addr
  fd_is_name : FuncData
  F_is_name : Fun K "is_name" "is_name" s_is_name f_is_name fd_is_name
  g_is_name : mg "is_name" = some (.ref f_is_name)
  b_is_name : Binds K fd_is_name ["value"] []
  f_is_path : Addr
  fd_is_path : FuncData
  F_is_path : Fun K "is_path" "is_path" s_is_path f_is_path fd_is_path
  g_is_path : mg "is_path" = some (.ref f_is_path)
  b_is_path : Binds K fd_is_path ["value"] []
  f_law_begun : Addr
  fd_law_begun : FuncData
  F_law_begun : Fun K "_law_begun" "_law_begun" s_law_begun f_law_begun fd_law_begun
  g_law_begun : mg "_law_begun" = some (.ref f_law_begun)
  b_law_begun : Binds K fd_law_begun ["_law_script"] []
  f_law_mixed : Addr
  fd_law_mixed : FuncData
  F_law_mixed : Fun K "_law_mixed" "_law_mixed" s_law_mixed f_law_mixed fd_law_mixed
  g_law_mixed : mg "_law_mixed" = some (.ref f_law_mixed)
  b_law_mixed : Binds K fd_law_mixed ["_law_state"] []
  f_law_take : Addr
  fd_law_take : FuncData
  F_law_take : Fun K "_law_take" "_law_take" s_law_take f_law_take fd_law_take
  g_law_take : mg "_law_take" = some (.ref f_law_take)
  b_law_take : Binds K fd_law_take ["_law_state", "_law_size"] []
  f_law_pick : Addr
  fd_law_pick : FuncData
  F_law_pick : Fun K "_law_pick" "_law_pick" s_law_pick f_law_pick fd_law_pick
  g_law_pick : mg "_law_pick" = some (.ref f_law_pick)
  b_law_pick : Binds K fd_law_pick ["_law_state", "_law_some"] []
  f_law_reserved : Addr
  fd_law_reserved : FuncData
  F_law_reserved : Fun K "_law_reserved" "_law_reserved" s_law_reserved f_law_reserved fd_law_reserved
  g_law_reserved : mg "_law_reserved" = some (.ref f_law_reserved)
  b_law_reserved : Binds K fd_law_reserved [] []
  f_law_any_word : Addr
  fd_law_any_word : FuncData
  F_law_any_word : Fun K "_law_any_word" "_law_any_word" s_law_any_word f_law_any_word fd_law_any_word
  g_law_any_word : mg "_law_any_word" = some (.ref f_law_any_word)
  b_law_any_word : Binds K fd_law_any_word ["_law_state", "_law_least", "_law_most"] []
  f_law_any_name : Addr
  fd_law_any_name : FuncData
  F_law_any_name : Fun K "_law_any_name" "_law_any_name" s_law_any_name f_law_any_name fd_law_any_name
  g_law_any_name : mg "_law_any_name" = some (.ref f_law_any_name)
  b_law_any_name : Binds K fd_law_any_name ["_law_state"] []
  f_law_is_word : Addr
  fd_law_is_word : FuncData
  F_law_is_word : Fun K "_law_is_word" "_law_is_word" s_law_is_word f_law_is_word fd_law_is_word
  g_law_is_word : mg "_law_is_word" = some (.ref f_law_is_word)
  b_law_is_word : Binds K fd_law_is_word ["_law_worth"] []
  f_law_is_name : Addr
  fd_law_is_name : FuncData
  F_law_is_name : Fun K "_law_is_name" "_law_is_name" s_law_is_name f_law_is_name fd_law_is_name
  g_law_is_name : mg "_law_is_name" = some (.ref f_law_is_name)
  b_law_is_name : Binds K fd_law_is_name ["_law_worth"] []
  f_law_is_path : Addr
  fd_law_is_path : FuncData
  F_law_is_path : Fun K "_law_is_path" "_law_is_path" s_law_is_path f_law_is_path fd_law_is_path
  g_law_is_path : mg "_law_is_path" = some (.ref f_law_is_path)
  b_law_is_path : Binds K fd_law_is_path ["_law_worth"] []
  f_law_spoilt : Addr
  fd_law_spoilt : FuncData
  F_law_spoilt : Fun K "_law_spoilt" "_law_spoilt" s_law_spoilt f_law_spoilt fd_law_spoilt
  g_law_spoilt : mg "_law_spoilt" = some (.ref f_law_spoilt)
  b_law_spoilt : Binds K fd_law_spoilt ["_law_state", "_law_worth"] []
  f_law_drawn : Addr
  fd_law_drawn : FuncData
  F_law_drawn : Fun K "_law_drawn" "_law_drawn" s_law_drawn f_law_drawn fd_law_drawn
  g_law_drawn : mg "_law_drawn" = some (.ref f_law_drawn)
  b_law_drawn : Binds K fd_law_drawn ["_law_state"] []
  f_law : Addr
  fd_law : FuncData
  F_law : Fun K "law" "law" s_law f_law fd_law
  g_law : mg "law" = some (.ref f_law)
  b_law : Binds K fd_law ["_law_script"] []
  c_LETTERS : ∃ t, mg "LETTERS" = some (.str "abcdefghijklmnopqrstuvwxyz" t)
  c_SIGNS : ∃ t, mg "SIGNS" = some (.str "abcdefghijklmnopqrstuvwxyz0123456789_" t)
  c_MOST_SIGNS : ∃ t, mg "MOST_SIGNS" = some (.int 8 t)
  a_RESERVED : Addr
  c_RESERVED : mg "RESERVED" = some (.ref a_RESERVED)
  q_RESERVED : ∀ H, SqT K H a_RESERVED [V.str "as", V.str "ask", V.str "call", V.str "def", V.str "each", V.str "else", V.str "entry", V.str "except", V.str "fail", V.str "if", V.str "in", V.str "let", V.str "offer", V.str "return", V.str "set", V.str "table", V.str "there", V.str "try", V.str "use"]
  z_isinstance : mg "isinstance" = none
  z_str : mg "str" = none
  z_all : mg "all" = none
  z_len : mg "len" = none
  z_tuple : mg "tuple" = none
  z_list : mg "list" = none
  z_int : mg "int" = none
  z_range : mg "range" = none
  z_min : mg "min" = none
  z_repr : mg "repr" = none
end Sn

/-! ## The drawing state of the laws: _law_begun, _law_mixed, _law_take, _law_pick. What is drawn is not told, only its bounds -/
namespace Sn
open PySem PySem.Spec PyProof.Rows L2

/-- the state's dict -/
def drK (g c : Addr) (l t : Int) : List (Key × V) :=
  [(Sum.inr "great", .ref g), (Sum.inr "cells", .ref c), (Sum.inr "left", .int l), (Sum.inr "turn", .int t)]
/-- the drawing state stands at d, its two lists at g and c; at most m numbers were mixed so far -/
structure Dr (H : Hp) (d g c : Addr) (m : Nat) : Prop where
  di : ∃ l t : Int, 0 ≤ t ∧ t ≤ m ∧ H d = some (.dK (drK g c l t))
  gr : ∃ ns : List Int, H g = some (.lst (ns.map V.int))
  ce : ∃ ns : List Int, H c = some (.lst (ns.map V.int))
  gc : g ≠ c
theorem Dr.mono {H : Hp} {d g c : Addr} {m n : Nat} (D : Dr H d g c m) (h : m ≤ n) : Dr H d g c n := by
  obtain ⟨l, t, h0, h1, h2⟩ := D.di
  exact ⟨⟨l, t, h0, by omega, h2⟩, D.gr, D.ce, D.gc⟩
theorem Dr.dg {H : Hp} {d g c : Addr} {m : Nat} (D : Dr H d g c m) : d ≠ g := by
  obtain ⟨l, t, _, _, h2⟩ := D.di
  obtain ⟨ns, h3⟩ := D.gr
  exact ne_of h2 h3 (by intro z; cases z)
theorem Dr.dc {H : Hp} {d g c : Addr} {m : Nat} (D : Dr H d g c m) : d ≠ c := by
  obtain ⟨l, t, _, _, h2⟩ := D.di
  obtain ⟨ns, h3⟩ := D.ce
  exact ne_of h2 h3 (by intro z; cases z)
/-- all that was tracked stands, but the state's dict and its first list -/
def Mv (d g : Addr) (H H' : Hp) : Prop := ∀ b o, b ≠ d → b ≠ g → H b = some o → H' b = some o
theorem Mv.refl (d g : Addr) (H : Hp) : Mv d g H H := fun _ _ _ _ e => e
theorem Mv.trans {d g : Addr} {H H1 H2 : Hp} (a : Mv d g H H1) (b : Mv d g H1 H2) : Mv d g H H2 :=
  fun x o h1 h2 e => b x o h1 h2 (a x o h1 h2 e)
theorem Mv.same {d g : Addr} {H H1 : Hp} (a : Same H H1) : Mv d g H H1 := fun x o _ _ e => a x o e
theorem Mv.upd {d g : Addr} {H : Hp} {o : HO} : Mv d g H (upd H d o) := fun b x h1 _ e => by rw [upd_ne h1]; exact e
theorem same_new {H : Hp} {p : Addr} {o : HO} (h : H p = none) : Same H (upd H p o) := fun b x e => by
  rw [upd_ne (ne_of_none e h)]
  exact e
/-- the state stays where all that is tracked stays -/
theorem Dr.same {H H' : Hp} {d g c : Addr} {m : Nat} (D : Dr H d g c m) (s : Same H H') : Dr H' d g c m := by
  obtain ⟨⟨l, t, h0, h1, h2⟩, ⟨a, h3⟩, ⟨b, h4⟩, h5⟩ := D
  exact ⟨⟨l, t, h0, h1, s _ _ h2⟩, ⟨a, s _ _ h3⟩, ⟨b, s _ _ h4⟩, h5⟩
theorem get_great (g c : Addr) (l t : Int) : valV (drK g c l t) (Sum.inr "great" : Key) = some (.ref g) := by kernel_rfl
theorem get_cells (g c : Addr) (l t : Int) : valV (drK g c l t) (Sum.inr "cells" : Key) = some (.ref c) := by kernel_rfl
theorem get_left (g c : Addr) (l t : Int) : valV (drK g c l t) (Sum.inr "left" : Key) = some (.int l) := by kernel_rfl
theorem get_turn (g c : Addr) (l t : Int) : valV (drK g c l t) (Sum.inr "turn" : Key) = some (.int t) := by kernel_rfl
theorem put_left (g c : Addr) (l t x : Int) : putK (drK g c l t) (Sum.inr "left" : Key) (.int x) = drK g c x t := by kernel_rfl
theorem put_turn (g c : Addr) (l t x : Int) : putK (drK g c l t) (Sum.inr "turn" : Key) (.int x) = drK g c l x := by kernel_rfl
theorem dget_of {H : Hp} {d : Addr} {kvs : List (Key × V)} {x : Str} {v : V} (h : H d = some (.dK kvs)) (e : valV kvs (Sum.inr x : Key) = some v) :
    DGet H d (.str x) (some v) := .inl ⟨kvs, Sum.inr x, .inl h, rfl, e.symm⟩
theorem dput_of {H : Hp} {d : Addr} {kvs kvs' : List (Key × V)} {x : Str} {v : V} (h : H d = some (.dK kvs)) (hl : kvs.length ≤ 1000) (e : putK kvs (Sum.inr x : Key) v = kvs') :
    DPut H d (.str x) v (upd H d (.dK kvs')) := .inl ⟨kvs, Sum.inr x, h, rfl, small1000 hl, by rw [e]⟩

theorem dp_ints {K : PySem.W.Frag} {H : Hp} : ∀ ns : List Int, DpAll K H (ns.map V.int) (ns.map PyData.int)
  | [] => .nil
  | n :: r => .cons (.int n) (dp_ints r)
theorem ix0 (x : Int) (r : List Int) : seqIndex? 0 ((x :: r).map V.int).length = some 0 := by
  rw [List.map_cons, List.length_cons]
  simp [seqIndex?]
theorem small4 (g c : Addr) (l t : Int) : (drK g c l t).length ≤ 1000 := by show 4 ≤ 1000; decide
def primes : List Int := [2147483629, 2147483587, 2147483579, 2147483563, 2147483549, 2147483543]
theorem primes_lo : ∀ q ∈ primes, 2147483543 ≤ q := by decide
theorem primes_hi : ∀ q ∈ primes, q ≤ 2147483629 := by decide
section
variable {P : Program} {w : World} {K : PySem.W.Frag} {mg : Str → Option Value} {base : Heap}
/-- _law_mixed: some number; one more was mixed -/
def spMixed : Sp := fun vs H Q _ => ∃ (d g c : Addr) (m : Nat), vs = [.ref d] ∧ Dr H d g c m ∧ m ≤ 1000000000 ∧
  ∀ (r : Int) (H' : Hp), Dr H' d g c (m + 1) → H' g = H g → Mv d g H H' → Q (.int r) H'
theorem ok_mixed (T : Txt K mg) : FnOk P w K mg base CX0 1 T.f_law_mixed T.fd_law_mixed ["_law_state"] spMixed := by
  refine T.F_law_mixed.ok sc_law_mixed (fun vs H Q E h => ?_) (fun cdv A outer s H vs Q E hr h => ?_)
  · obtain ⟨d, g, c, m, rfl, _⟩ := h
    rfl
  · obtain ⟨d, g, c, m, rfl, D, hm, k⟩ := h
    have hu := hu_of hr
    refine ⟨_, pss_cons (ps_dput hu (pv 0) pe_str (pe_op op_add (pe_dget hu (pv 0) pe_str (fun _ _ => rfl)) pe_int) rfl)
      (pss_cons (ps_set (i := 1) sc_law_mixed.nd rfl (Or.inl rfl) pe_int)
      (pss_cons (ps_for PassesOwn.never rfl (pi_list (pe_lst (pa_cons pe_int (pa_cons pe_int (pa_cons pe_int (pa_cons pe_int (pa_cons pe_int (pa_cons pe_int pa_nil)))))))) (pg_name (i := 2) sc_law_mixed.nd rfl (Or.inl rfl))
        (pss_cons (ps_set (i := 3) sc_law_mixed.nd rfl (Or.inl rfl) (pe_op op_add (pe_op op_mul pe_int (pe_dget hu (pv 0) pe_str (fun _ _ => rfl))) (pe_op op_fdivN (pv 2) pe_int)))
        (pss_cons (ps_for PassesOwn.never rfl (pi_list (pe_dget hu (pv 0) pe_str (fun _ _ => rfl))) (pg_name (i := 4) sc_law_mixed.nd rfl (Or.inl rfl))
          (pss_one (ps_set (i := 3) sc_law_mixed.nd rfl (Or.inl rfl) (pe_op op_modN (pe_callTy call_int1 (by rfl) T.z_int (by decide +kernel) (pa_cons (pe_op op_add (pe_op op_mul (pv 3) pe_int) (pv 4)) pa_nil)) (pv 2)))))
        (pss_one (ps_set (i := 1) sc_law_mixed.nd rfl (Or.inl rfl) (pe_op op_add (pe_op op_mul (pv 1) pe_int) (pe_op op_modN (pe_callTy call_int1 (by rfl) T.z_int (by decide +kernel) (pa_cons (pe_op op_pow (pv 3) pe_int) pa_nil)) (pv 2))))))))
      (pss_one (ps_ret (pv 1))))), ?_⟩
    obtain ⟨⟨l, t, h0, h1, hd⟩, ⟨gs, hg⟩, ⟨cs, hc⟩, hgc⟩ := id D
    refine ⟨_, rfl, d, _, rfl, dget_of hd (get_turn g c l t), _, _, rfl, rfl, _, rfl, d, _, rfl, dput_of hd (small4 g c l t) (put_turn g c l t _), ?_⟩
    refine ⟨(by show 6 ≤ sizeLine; decide), fun p hp => ?_⟩
    have npd : p ≠ d := fun e => by rw [e, upd_same] at hp; cases hp
    have hp0 : H p = none := by rw [upd_ne npd] at hp; exact hp
    have ncd : c ≠ d := fun e => by rw [e, hd] at hc; cases hc
    have ngd : g ≠ d := fun e => by rw [e, hd] at hg; cases hg
    generalize eH2 : upd (upd H d (.dK (drK g c l (t + 1)))) p (.lst [.int 2147483629, .int 2147483587, .int 2147483579, .int 2147483563, .int 2147483549, .int 2147483543]) = H2
    have fd : H2 d = some (.dK (drK g c l (t + 1))) := by rw [← eH2, upd_ne npd.symm, upd_same]
    have fc : H2 c = some (.lst (cs.map V.int)) := by rw [← eH2, upd_ne (ne_of_none hc hp0), upd_ne ncd]; exact hc
    have fg : H2 g = some (.lst (gs.map V.int)) := by rw [← eH2, upd_ne (ne_of_none hg hp0), upd_ne ngd]; exact hg
    have fp : H2 p = some (.lst (primes.map V.int)) := by rw [← eH2, upd_same]; rfl
    refine ⟨p, rfl, ⟨_, .inl (.inl fp)⟩, for_list (K := K) (a := p) (xs := primes.map V.int)
      (fun i σ H3 => ∃ (v2 v3 v4 : Option V) (f : Int), H2 = H3 ∧ σ = [some (.ref d), some (.int f), v2, v3, v4]) ⟨none, none, none, 0, rfl, rfl⟩ (fun i σ H3 _ ⟨_, _, _, _, e, _⟩ => by rw [← e]; exact .inl (.inl fp)) ?_ ?_⟩
    · rintro i y σ H3 hi ⟨v2, v3, v4, f, rfl, rfl⟩
      obtain ⟨q, rfl, q1, q2⟩ : ∃ q : Int, y = .int q ∧ 2147483543 ≤ q ∧ q ≤ 2147483629 := by
        have hm : y ∈ primes.map V.int := List.mem_of_getElem? hi
        obtain ⟨q, hq, rfl⟩ := List.mem_map.mp hm
        exact ⟨q, rfl, primes_lo q hq, primes_hi q hq⟩
      -- blend = 69997 * turn + prime // 11
      refine ⟨_, rfl, d, _, rfl, dget_of fd (get_turn g c l (t + 1)), _, _, rfl, rfl, .inl ⟨by decide, by decide⟩, _, rfl, _, _, rfl, rfl, ⟨by decide, by decide⟩, _, _, rfl, rfl, ?_⟩
      have b0 : 0 ≤ 69997 * (t + 1) + Int.fdiv q 11 ∧ 69997 * (t + 1) + Int.fdiv q 11 < 9223372036854775808 := by
        rw [Int.fdiv_eq_ediv_of_nonneg _ (by decide)]
        omega
      -- for cell in state["cells"]
      refine ⟨_, rfl, d, _, rfl, dget_of fd (get_cells g c l (t + 1)), c, rfl, ⟨_, .inl (.inl fc)⟩, for_list (K := K) (a := c) (xs := cs.map V.int)
        (fun i σ H3 => ∃ (v4 : Option V) (b : Int), H2 = H3 ∧ (0 ≤ b ∧ b < 9223372036854775808) ∧ σ = [some (.ref d), some (.int f), some (.int q), some (.int b), v4]) ⟨v4, _, rfl, b0, rfl⟩
        (fun i σ H3 _ ⟨_, _, e, _, _⟩ => by rw [← e]; exact .inl (.inl fc)) ?_ ?_⟩
      · rintro j x σ H3 hj ⟨v4, b, rfl, hb, rfl⟩
        obtain ⟨z, hz, rfl⟩ := List.mem_map.mp (List.mem_of_getElem? hj)
        refine ⟨_, rfl, _, _, rfl, rfl, .inr ⟨by decide, by decide⟩, _, rfl, _, _, rfl, rfl, .inl ⟨_, rfl, _, rfl, _, _, rfl, rfl, (by omega), ?_⟩⟩
        refine ⟨_, _, rfl, ?_, rfl⟩
        rw [Int.fmod_eq_emod_of_nonneg _ (by omega)]
        have e1 := Int.emod_nonneg (b * 48271 + z) (b := q) (by omega)
        have e2 := Int.emod_lt_of_pos (b * 48271 + z) (b := q) (by omega)
        omega
      · rintro σ H3 ⟨v4, b, rfl, hb, rfl⟩
        refine ⟨_, rfl, _, _, rfl, rfl, .inr ⟨by decide, by decide⟩, _, rfl, _, _, rfl, rfl, ⟨by decide, by decide, by omega⟩, .inl ⟨_, rfl, _, rfl, _, _, rfl, rfl, (by omega), _, _, rfl, rfl, ?_⟩⟩
        exact ⟨_, _, _, _, rfl, rfl⟩
    · rintro σ H3 ⟨v2, v3, v4, f, rfl, rfl⟩
      refine ⟨_, rfl, k f _ ⟨⟨l, t + 1, by omega, by omega, fd⟩, ⟨gs, fg⟩, ⟨cs, fc⟩, hgc⟩ (fg.trans hg.symm) fun b o h1 h2 e => ?_⟩
      rw [← eH2, upd_ne (ne_of_none e hp0), upd_ne h1]
      exact e
/-- _law_take: some number from 0 to size - 1 -/
def spTake : Sp := fun vs H Q _ => ∃ (d g c : Addr) (m : Nat) (n : Int), vs = [.ref d, .int n] ∧ Dr H d g c m ∧ m ≤ 1000000000 ∧ 0 < n ∧ n < 1000000000 ∧
  ∀ (r : Int) (H' : Hp), 0 ≤ r → r < n → Dr H' d g c (m + 1) → Mv d g H H' → Q (.int r) H'
theorem ok_take (T : Txt K mg) : FnOk P w K mg base CX0 2 T.f_law_take T.fd_law_take ["_law_state", "_law_size"] spTake := by
  have GM : FnOk P w K mg base CX0 1 T.f_law_mixed T.fd_law_mixed ["_law_state"] spMixed := ok_mixed T
  refine T.F_law_take.ok sc_law_take (fun vs H Q E h => ?_) (fun cdv A outer s H vs Q E hr h => ?_)
  · obtain ⟨d, g, c, m, n, rfl, _⟩ := h
    rfl
  · obtain ⟨d, g, c, m, n, rfl, D, hm, n0, n1, k⟩ := h
    have hu := hu_of hr
    refine ⟨_, pss_cons (ps_if (pt_cmpR op_eq (pe_dget hu (pv 0) pe_str (fun _ _ => rfl)) pe_int (nomark _))
        (pss_one (ps_dput hu (pv 0) pe_str (pe_ifExp (pt_cmpR (op_neD hr.units) (pe_dget hu (pv 0) pe_str (fun _ _ => rfl)) (pe_lst pa_nil) (nomark _))
          (pe_bm PySem.F.plainAttrs_list PySem.F.slot_list_pop PySem.F.type_list_pop mt_popAt (pe_dget hu (pv 0) pe_str (fun _ _ => rfl)) (pa_cons pe_int pa_nil))
          (pe_call GM hr rfl T.g_law_mixed T.F_law_mixed.kp T.b_law_mixed .nil pass0 (pa_cons (pv 0) pa_nil))) rfl)) pss_nil)
      (pss_cons (ps_set (i := 2) sc_law_take.nd rfl (Or.inl rfl) (pe_op op_modN (pe_callTy call_int1 (by rfl) T.z_int (by decide +kernel) (pa_cons (pe_dget hu (pv 0) pe_str (fun _ _ => rfl)) pa_nil)) (pv 1)))
      (pss_cons (ps_dput hu (pv 0) pe_str (pe_op op_fdivN (pe_dget hu (pv 0) pe_str (fun _ _ => rfl)) (pv 1)) rfl)
      (pss_one (ps_ret (pv 2))))), ?_⟩
    obtain ⟨⟨l, t, h0, h1, hd⟩, ⟨gs, hg⟩, ⟨cs, hc⟩, hgc⟩ := id D
    have ngd : g ≠ d := fun e => by rw [e, hd] at hg; cases hg
    have ncd : c ≠ d := fun e => by rw [e, hd] at hc; cases hc
    refine ⟨_, rfl, d, _, rfl, dget_of hd (get_left g c l t), rfl, _, rfl, ?_⟩
    have tail : ∀ (x y : Int) (H1 : Hp), 0 ≤ y → y ≤ m + 1 → H1 d = some (.dK (drK g c x y)) → (∃ ns : List Int, H1 g = some (.lst (ns.map V.int))) → H1 c = some (.lst (cs.map V.int)) → Mv d g H H1 →
        (0 ≤ Int.fmod x n ∧ Int.fmod x n < n) ∧ Q (.int (Int.fmod x n)) (upd H1 d (.dK (drK g c (Int.fdiv x n) y))) := by
      intro x y H1 y0 y1 e1 e2 e3 mv
      have r0 : 0 ≤ Int.fmod x n ∧ Int.fmod x n < n := by
        rw [Int.fmod_eq_emod_of_nonneg _ (by omega)]
        exact ⟨Int.emod_nonneg _ (by omega), Int.emod_lt_of_pos _ n0⟩
      obtain ⟨ns, e2⟩ := e2
      refine ⟨r0, k _ _ r0.1 r0.2 ⟨⟨_, y, y0, by omega, upd_same⟩, ⟨ns, by rw [upd_ne ngd]; exact e2⟩, ⟨cs, by rw [upd_ne ncd]; exact e3⟩, hgc⟩ (mv.trans Mv.upd)⟩
    refine ite2 (fun _ => ?_) (fun _ => ?_)
    · refine ⟨_, rfl, d, _, rfl, dget_of hd (get_great g c l t), (by show 0 ≤ sizeLine; decide), fun p hp => ?_⟩
      have sp1 : Same H (upd H p (.lst [])) := same_new hp
      refine ⟨_, _, .lst (.inl (.inl (sp1 _ _ hg))) (dp_ints gs), .lst (.inl (.inl upd_same)) .nil, PySem.W.ke_shaped_ints gs, by decide, _, rfl, ?_⟩
      match gs, hg with
      | [], hg =>
        refine iteF ?_
        refine ⟨_, rfl, d, g, c, m, rfl, D.same sp1, hm, fun r H1 D1 eg mv => ?_⟩
        obtain ⟨⟨l1, t1, g0, g1, hd1⟩, ⟨gs1, hg1⟩, ⟨cs1, hc1⟩, _⟩ := id D1
        refine ⟨_, rfl, d, _, rfl, dput_of hd1 (small4 g c l1 t1) (put_left g c l1 t1 r), ?_⟩
        have hc2 : H1 c = some (.lst (cs.map V.int)) := mv c _ ncd hgc.symm (sp1 _ _ hc)
        obtain ⟨r0, z⟩ := tail r t1 (upd H1 d (.dK (drK g c r t1))) g0 (by omega) upd_same ⟨gs1, by rw [upd_ne ngd]; exact hg1⟩ (by rw [upd_ne ncd]; exact hc2) (((Mv.same sp1).trans mv).trans Mv.upd)
        refine ⟨_, rfl, d, _, rfl, dget_of upd_same (get_left g c r t1), .inl ⟨_, rfl, _, rfl, _, _, rfl, rfl, (by omega), ?_⟩⟩
        exact ⟨_, rfl, d, _, rfl, dget_of upd_same (get_left g c r t1), _, rfl, _, _, rfl, rfl, ⟨by omega, by omega⟩, _, rfl, d, _, rfl, dput_of upd_same (small4 g c r t1) (put_left g c r t1 _), _, rfl, z⟩
      | x :: gs, hg =>
        refine iteT ?_
        refine ⟨_, rfl, d, _, rfl, dget_of (sp1 _ _ hd) (get_great g c l t), .inl ⟨rfl, _, .inl (.inl (sp1 _ _ hg))⟩, g, _, 0, 0, _, rfl, rfl, sp1 _ _ hg, by decide, by decide, ix0 _ _, rfl, ?_⟩
        have hd1 : (upd (upd H p (.lst [])) g (.lst (((x :: gs).map V.int).eraseIdx 0))) d = some (.dK (drK g c l t)) := by rw [upd_ne ngd.symm]; exact sp1 _ _ hd
        refine ⟨_, rfl, d, _, rfl, dput_of hd1 (small4 g c l t) (put_left g c l t x), ?_⟩
        obtain ⟨r0, z⟩ := tail x t (upd (upd (upd H p (.lst [])) g (.lst (((x :: gs).map V.int).eraseIdx 0))) d (.dK (drK g c x t))) h0 (by omega) upd_same ⟨gs, by rw [upd_ne ngd, upd_same]; rfl⟩ (by rw [upd_ne ncd, upd_ne hgc.symm]; exact sp1 _ _ hc) (fun b o b1 b2 e => by rw [upd_ne b1, upd_ne b2]; exact sp1 _ _ e)
        refine ⟨_, rfl, d, _, rfl, dget_of upd_same (get_left g c x t), .inl ⟨_, rfl, _, rfl, _, _, rfl, rfl, (by omega), ?_⟩⟩
        exact ⟨_, rfl, d, _, rfl, dget_of upd_same (get_left g c x t), _, rfl, _, _, rfl, rfl, ⟨by omega, by omega⟩, _, rfl, d, _, rfl, dput_of upd_same (small4 g c x t) (put_left g c x t _), _, rfl, z⟩
    · obtain ⟨r0, z⟩ := tail l t H h0 (by omega) hd ⟨gs, hg⟩ hc (Mv.refl _ _ _)
      refine ⟨_, rfl, d, _, rfl, dget_of hd (get_left g c l t), .inl ⟨_, rfl, _, rfl, _, _, rfl, rfl, (by omega), ?_⟩⟩
      exact ⟨_, rfl, d, _, rfl, dget_of hd (get_left g c l t), _, rfl, _, _, rfl, rfl, ⟨by omega, by omega⟩, _, rfl, d, _, rfl, dput_of hd (small4 g c l t) (put_left g c l t _), _, rfl, z⟩
theorem at_int {α : Type} {xs : List α} {r : Int} (h0 : 0 ≤ r) (h1 : r < xs.length) : ∃ v, v ∈ xs ∧ atI xs r = some v := by
  obtain ⟨j, rfl⟩ := Int.eq_ofNat_of_zero_le h0
  have hj : j < xs.length := by omega
  exact ⟨xs[j], List.getElem_mem hj, atI_nat (List.getElem?_eq_getElem hj)⟩
/-- _law_pick: a sign of a text that is not empty, an item of a list that is not empty -/
def spPick : Sp := fun vs H Q _ => ∃ (d g c : Addr) (m : Nat), Dr H d g c m ∧ m ≤ 1000000000 ∧
  ((∃ z : Str, vs = [.ref d, .str z] ∧ 0 < z.length ∧ z.length ≤ 1000 ∧ ∀ (x : Nat) (H' : Hp), x ∈ z.cps.toList → Dr H' d g c (m + 1) → Mv d g H H' → Q (.str ⟨#[x]⟩) H') ∨
   (∃ (p : Addr) (xs : List V), vs = [.ref d, .ref p] ∧ H p = some (.lst xs) ∧ p ≠ g ∧ 0 < xs.length ∧ xs.length ≤ 1000 ∧ ∀ (x : V) (H' : Hp), x ∈ xs → Dr H' d g c (m + 1) → Mv d g H H' → Q x H'))
theorem ok_pick (T : Txt K mg) : FnOk P w K mg base CX0 3 T.f_law_pick T.fd_law_pick ["_law_state", "_law_some"] spPick := by
  have GT : FnOk P w K mg base CX0 2 T.f_law_take T.fd_law_take ["_law_state", "_law_size"] spTake := ok_take T
  refine T.F_law_pick.ok sc_law_pick (fun vs H Q E h => ?_) (fun cdv A outer s H vs Q E hr h => ?_)
  · obtain ⟨d, g, c, m, _, _, ⟨z, rfl, _⟩ | ⟨p, xs, rfl, _⟩⟩ := h
    · rfl
    · rfl
  · obtain ⟨d, g, c, m, D, hm, h⟩ := h
    refine ⟨_, pss_one (ps_ret (pe_ix ix_seq (pv 1) (pe_call GT hr rfl T.g_law_take T.F_law_take.kp T.b_law_take .nil pass0 (pa_cons (pv 0) (pa_cons (pe_callB call_len (by rfl) T.z_len PySem.boot_len (pa_cons (pv 1) pa_nil)) pa_nil))) (fun _ _ => rfl))), ?_⟩
    rcases h with ⟨z, rfl, z0, z1, k⟩ | ⟨p, xs, rfl, hp, npg, z0, z1, k⟩
    · have zs : z.length ≤ sizeLine := Nat.le_of_lt (small1000 z1)
      refine ⟨_, rfl, _, rfl, _, rfl, _, z.length, rfl, ⟨zs, rfl⟩, d, g, c, m, _, rfl, D, hm, by omega, by omega, fun r H' r0 r1 D' mv => ?_⟩
      obtain ⟨x, hx, ex⟩ := at_int (xs := z.cps.toList) r0 (by show r < (z.length : Int); omega)
      exact .inr (.inr ⟨z, r, x, rfl, rfl, zs, ex, k _ H' hx D' mv⟩)
    · refine ⟨_, rfl, _, rfl, _, rfl, _, xs.length, rfl, .inl ⟨xs, .inl (.inl hp), rfl⟩, d, g, c, m, _, rfl, D, hm, by omega, by omega, fun r H' r0 r1 D' mv => ?_⟩
      have npd : p ≠ d := by
        obtain ⟨l, t, _, _, hd⟩ := D.di
        exact ne_of hp hd (by intro z; cases z)
      obtain ⟨x, hx, ex⟩ := at_int (xs := xs) r0 r1
      exact .inl ⟨p, xs, r, x, rfl, rfl, .inl (.inl (mv p _ npd npg hp)), ex, k _ H' hx D' mv⟩
/-- _law_begun: a new state -/
def spBegun (K : PySem.W.Frag) : Sp := fun vs H Q _ => ∃ (a : Addr) (ns : List Int), vs = [.ref a] ∧ SqL K H a (ns.map V.int) ∧ ns.length ≤ 1000 ∧
  ∀ (d g c : Addr) (H' : Hp), H d = none → H g = none → H c = none → Dr H' d g c 0 → Same H H' → Q (.ref d) H'
theorem ok_begun (T : Txt K mg) : FnOk P w K mg base CX0 1 T.f_law_begun T.fd_law_begun ["_law_script"] (spBegun K) := by
  refine T.F_law_begun.ok sc_law_begun (fun vs H Q E h => ?_) (fun cdv A outer s H vs Q E hr h => ?_)
  · obtain ⟨a, ns, rfl, _⟩ := h
    rfl
  · obtain ⟨a, ns, rfl, hS, hl, k⟩ := h
    refine ⟨_, pss_cons (ps_setLc (i := 1) (own := [("_law_cell", 2)]) (g := gName 2) rfl sc_law_begun.nd rfl rfl (sw_true rfl rfl rfl (by decide +kernel)) (pi_list (pv 0))
        (blkOk_by (own := [("_law_cell", 2)]) (N := n_law_begun) (sc := defScope s_law_begun) (by decide +kernel))
        (fun _ _ _ _ _ => pg_name (i := 2) sc_law_begun.nd rfl (Or.inl rfl))
        (fun _ _ _ _ _ => pts_one (pt_cmpR op_ge (pv 2) (pe_op op_pow pe_int pe_int) (nomark _)))
        (fun _ _ _ _ _ => pe_op op_sub (pv 2) (pe_op op_pow pe_int pe_int)))
      (pss_one (ps_ret (pe_disp (pps_cons pe_str (pv 1) (pps_cons pe_str (pe_callTy call_list_of (by rfl) T.z_list (by decide +kernel) (pa_cons (pv 0) pa_nil)) (pps_cons pe_str pe_int (pps_cons pe_str pe_int pps_nil)))) (by rfl) (by rfl) (fun z => by cases z) (by decide)))), ?_⟩
    refine ⟨_, rfl, a, rfl, ⟨_, hS⟩, fun D hD => ?_⟩
    have sm : ∀ o, Same H (upd H D o) := fun o => same_new hD
    refine lc_list (K := K) (a := a) (xs := ns.map V.int) (fun i H1 => ∃ gs : List Int, H1 = upd H D (.lst (gs.map V.int)) ∧ gs.length ≤ i) ⟨[], rfl, Nat.le_refl _⟩
      (fun i H1 _ ⟨gs, e, _⟩ => by rw [e]; exact (sm _).seq hS) ?_ ?_
    · rintro i x H1 hx ⟨gs, rfl, hg⟩
      have hi : i < (ns.map V.int).length := (List.getElem?_eq_some_iff.mp hx).1
      rw [List.length_map] at hi
      obtain ⟨z, hz, rfl⟩ := List.mem_map.mp (List.mem_of_getElem? hx)
      refine ⟨rfl, _, rfl, _, _, rfl, rfl, ⟨by decide, by decide, by decide⟩, _, _, rfl, rfl, _, rfl, ?_⟩
      refine ite2 (fun _ => ?_) (fun _ => ?_)
      · refine ⟨_, rfl, _, _, rfl, rfl, ⟨by decide, by decide, by decide⟩, _, _, rfl, rfl, _, upd_same, ?_, ?_⟩
        · rw [List.length_map]
          exact small1000 (by omega)
        · refine ⟨gs ++ [z - 10 ^ 18], ?_, by rw [List.length_append]; show gs.length + 1 ≤ i + 1; omega⟩
          rw [upd_upd, List.map_append]
          rfl
      · exact ⟨gs, rfl, by omega⟩
    · rintro H1 ⟨gs, rfl, hg⟩
      intro d hd
      have nDd : D ≠ d := fun e => by rw [← e, upd_same] at hd; cases hd
      have hd0 : H d = none := by rw [upd_ne nDd.symm] at hd; exact hd
      have s1 : Same (upd H D (.lst (gs.map V.int))) (upd (upd H D (.lst (gs.map V.int))) d (.dK [])) := same_new hd
      refine ⟨_, rfl, _, rfl, a, _, rfl, .inl (s1.seq ((sm _).seq hS)), fun c hc => ?_⟩
      have s2 : Same (upd (upd H D (.lst (gs.map V.int))) d (.dK [])) (upd (upd (upd H D (.lst (gs.map V.int))) d (.dK [])) c (.lst (ns.map V.int))) := same_new hc
      have hgD := s2 _ _ (s1 _ _ (upd_same (H := H) (a := D) (o := .lst (gs.map V.int))))
      have hdd := s2 _ _ (upd_same (H := upd H D (.lst (gs.map V.int))) (a := d) (o := .dK []))
      have ndc : d ≠ c := fun e => by rw [← e, upd_same] at hc; cases hc
      have nDc : D ≠ c := fun e => by rw [← e] at hc; rw [s1 _ _ upd_same] at hc; cases hc
      have hc0 : H c = none := by rw [upd_ne ndc.symm, upd_ne nDc.symm] at hc; exact hc
      refine ⟨hdd, drK D c 0 0, rfl, by show 4 ≤ 15; decide, ?_⟩
      have em : mergeK [] (drK D c 0 0) = drK D c 0 0 := by kernel_rfl
      rw [em]
      refine k d D c _ hd0 hD hc0 ⟨⟨0, 0, by omega, by omega, upd_same⟩, ⟨gs, ?_⟩, ⟨ns, ?_⟩, nDc⟩ fun b o e => ?_
      · rw [upd_ne nDd]; exact hgD
      · rw [upd_ne ndc.symm, upd_same]
      · rw [upd_ne (ne_of_none e hd0)]; exact s2 _ _ (s1 _ _ (sm _ _ _ e))
end
end Sn

/-! ## The program's is_word, is_name, is_path -/
namespace Sn
open PySem PySem.Spec PyProof.Rows L2 TL

/-- a value that is no text -/
def NoStr (K : PySem.W.Frag) (H : Hp) (v : V) : Prop := ∃ t, TyX K H v t ∧ PySem.W.kitOne K t (.type "str") = some false
/-- a value that may be asked: a text that is not too long, or no text -/
def Arg (K : PySem.W.Frag) (H : Hp) (v : V) : Prop := (∃ z : Str, v = .str z ∧ z.length ≤ 1000) ∨ NoStr K H v
def ans (f : Str → Bool) : V → Bool
  | .str z => f z
  | _ => false
theorem NoStr.ans {K : PySem.W.Frag} {H : Hp} {v : V} (h : NoStr K H v) (f : Str → Bool) : ans f v = false := by
  obtain ⟨t, ty, hk⟩ := h
  cases v with
  | str z =>
    cases ty with
    | base b =>
      cases b
      have e : PySem.W.kitOne K (.type "str") (.type "str") = some true := kit_ty (by decide +kernel)
      rw [e] at hk
      cases hk
  | _ => rfl
theorem tyX_same {K : PySem.W.Frag} {H H' : Hp} {v : V} {t : Value} (s : Same H H') (h : TyX K H v t) : TyX K H' v t := by
  cases h with
  | base b =>
    refine .base ?_
    cases b with
    | non => exact .non
    | bl x => exact .bl x
    | int x => exact .int x
    | str x => exact .str x
    | flt x => exact .flt x
    | lst e => exact .lst (s _ _ e)
    | frz e => exact .frz (s _ _ e)
    | tup e => exact .tup (s _ _ e)
    | dK e => exact .dK (s _ _ e)
    | dT e => exact .dT (s _ _ e)
    | ins e a b c d f => exact .ins (s _ _ e) a b c d f
  | byt b => exact .byt b
  | set e => exact .set (s _ _ e)
  | kList e c => exact .kList e c
  | kTuple e c => exact .kTuple e c
  | kDict e c => exact .kDict e c
  | fTuple e => exact .fTuple (s _ _ e)
  | fDict e => exact .fDict (s _ _ e)
theorem Arg.same {K : PySem.W.Frag} {H H' : Hp} {v : V} (h : Arg K H v) (s : Same H H') : Arg K H' v := by
  rcases h with h | ⟨t, ty, hk⟩
  · exact .inl h
  · exact .inr ⟨t, tyX_same s ty, hk⟩
theorem same_in {H0 H2 : Hp} {D : Addr} {o : HO} (s : Same H0 H2) (h : H0 D = none) : Same H0 (upd H2 D o) := fun b x e => by
  rw [upd_ne (ne_of_none e h)]
  exact s _ _ e
/-- a question about one value: the answer f of a text, False of any other value -/
def spAsk (K : PySem.W.Frag) (f : Str → Bool) : Sp := fun vs H Q _ => ∃ v : V, vs = [v] ∧ Arg K H v ∧ ∀ H', Same H H' → Q (.bl (ans f v)) H'
theorem len_le {z : Str} (h : z.length ≤ 1000) : z.length ≤ sizeLine := Nat.le_of_lt (small1000 h)
theorem takes {α : Type} {l : List α} {i : Nat} {x : α} (h : l[i]? = some x) : l.take (i + 1) = l.take i ++ [x] := by
  rw [List.take_add_one, h]; rfl

section
variable {P : Program} {w : World} {K : PySem.W.Frag} {mg : Str → Option Value} {base : Heap}
theorem ok_word (T : Txt K mg) : FnOk P w K mg base CX0 1 T.f_is_word T.fd_is_word ["value"] (spAsk K isW) := by
  obtain ⟨t1, g1⟩ := T.c_MOST_SIGNS
  obtain ⟨t2, g2⟩ := T.c_SIGNS
  refine T.F_is_word.ok sc_is_word (fun vs H Q E h => ?_) (fun cdv A outer s H vs Q E hr h => ?_)
  · obtain ⟨v, rfl, _⟩ := h
    rfl
  · obtain ⟨v, rfl, ha, k⟩ := h
    refine ⟨_, pss_one (ps_ret (pe_and (pe_callB call_isi (by rfl) T.z_isinstance (by decide +kernel) (pa_cons (pv 0) (pa_cons (pe_bltn (v := .ty "str") (by rfl) T.z_str (by decide +kernel) rfl) pa_nil)))
      (pe_and (pe_cmpR op_le (pe_callB call_len (by rfl) T.z_len PySem.boot_len (pa_cons (pv 0) pa_nil)) (pe_glob (v := .int 8) rfl g1 ⟨_, rfl⟩) (nomark _))
      (pe_one (pe_callB (cr_all rfl) (by rfl) T.z_all (by decide +kernel) (pa_cons (pe_lc (own := [("sign", 1)]) (g := gName 1) (by rfl) sc_is_word.nd (pi_str (pv 0))
        (blkOk_by (own := [("sign", 1)]) (N := n_is_word) (sc := defScope s_is_word) (by decide +kernel))
        (fun _ _ _ _ _ => pg_name (i := 1) sc_is_word.nd rfl (Or.inl rfl)) (fun _ _ _ _ _ => pts_nil)
        (fun _ _ _ _ _ => pe_cmpR op_in_sign (pv 1) (pe_glob (v := .str sgnS) rfl g2 ⟨_, rfl⟩) rfl)) pa_nil)))))), ?_⟩
    rcases ha with ⟨z, rfl, hz⟩ | hn
    · refine ⟨_, rfl, _, .ty "str", .type "str", .type "str", true, rfl, .ty "str", .base (.str z), kit_ty (by decide +kernel), true, rfl, iteT ?_⟩
      refine ⟨_, rfl, _, z.length, rfl, ⟨len_le hz, rfl⟩, _, _, rfl, rfl, _, rfl, ?_⟩
      by_cases h8 : z.length ≤ 8
      · rw [decide_eq_true (show (z.length : Int) ≤ 8 by omega)]
        refine iteT ?_
        refine ⟨_, rfl, z, rfl, fun D hD => ?_⟩
        refine lc_it walk_str (fun i H1 => H1 = upd H D (.lst (((tl z).take i).map fun c => V.bl (decide (c ∈ tl sgnS))))) rfl (fun _ _ _ _ => trivial) ?_ ?_
        · rintro i x H1 H2 hi rfl ⟨rfl, c, hc, rfl⟩
          refine ⟨rfl, ?_⟩
          have hc2 : (tl z)[i]? = some c := by simpa using hc
          refine ⟨_, rfl, c, sgnS, rfl, rfl, _, upd_same, ?_, ?_⟩
          · rw [List.length_map]
            have : ((tl z).take i).length ≤ z.length := by rw [List.length_take, len_tl]; omega
            exact small1000 (by omega)
          · rw [upd_upd, takes hc2, List.map_append]; rfl
        · rintro H1 rfl
          refine ⟨D, (tl z).map fun c => decide (c ∈ tl sgnS), rfl, .inl (.inl ?_), ?_⟩
          · rw [upd_same, show z.cps.size = (tl z).length by simp, List.take_length, List.map_map]; rfl
          · have e : isW z = (((tl z).map fun c => decide (c ∈ tl sgnS)).all id) := by
              unfold isW
              rw [decide_eq_true h8, Bool.true_and, List.all_map]; rfl
            have q := k _ (same_new (H := H) (p := D) (o := .lst (((tl z).take z.cps.size).map fun c => V.bl (decide (c ∈ tl sgnS)))) hD)
            show Q (.bl _) _
            rw [← e]
            exact q
      · rw [decide_eq_false (show ¬ (z.length : Int) ≤ 8 by omega)]
        refine iteF ?_
        have e : isW z = false := by unfold isW; rw [decide_eq_false h8, Bool.false_and]
        have q := k H (Same.refl H)
        rw [show ans isW (.str z) = isW z from rfl, e] at q
        exact q
    · obtain ⟨t, ty, hk⟩ := id hn
      refine ⟨_, rfl, _, .ty "str", t, .type "str", false, rfl, .ty "str", ty, hk, false, rfl, iteF ?_⟩
      have q := k H (Same.refl H)
      rw [hn.ans] at q
      exact q
theorem ok_name (T : Txt K mg) : FnOk P w K mg base CX0 2 T.f_is_name T.fd_is_name ["value"] (spAsk K isN) := by
  have GW : FnOk P w K mg base CX0 1 T.f_is_word T.fd_is_word ["value"] (spAsk K isW) := ok_word T
  obtain ⟨t1, g1⟩ := T.c_LETTERS
  refine T.F_is_name.ok sc_is_name (fun vs H Q E h => ?_) (fun cdv A outer s H vs Q E hr h => ?_)
  · obtain ⟨v, rfl, _⟩ := h
    rfl
  · obtain ⟨v, rfl, ha, k⟩ := h
    refine ⟨_, pss_one (ps_ret (pe_and (pe_call GW hr rfl T.g_is_word T.F_is_word.kp T.b_is_word .nil pass0 (pa_cons (pv 0) pa_nil))
      (pe_and (pe_cmpR op_in_seq (pe_slice sl_str (pv 0) po_none (po_some pe_int)) (pe_callTy call_tupS (by rfl) T.z_tuple (by decide +kernel) (pa_cons (pe_glob (v := .str letS) rfl g1 ⟨_, rfl⟩) pa_nil)) (by rfl))
      (pe_one (pe_cmpR op_notIn_seq (pv 0) (pe_glob (v := .ref T.a_RESERVED) rfl T.c_RESERVED rfl) (by rfl)))))), ?_⟩
    refine ⟨_, rfl, v, rfl, ha, fun H1 s1 => ⟨_, rfl, ?_⟩⟩
    by_cases hw : ans isW v = true
    · rw [hw]
      refine iteT ?_
      rcases ha with ⟨z, rfl, hz⟩ | hn
      · have hw2 : isW z = true := hw
        refine ⟨_, rfl, _, rfl, z, rfl, len_le hz, letS, rfl, hr.hd, by decide +kernel, fun l hl => ?_⟩
        refine ⟨l, _, rfl, .inr (.inl (.inl upd_same)), rfl, ?_, _, rfl, ?_⟩
        · rw [signs_map]; exact flat_strs _
        · have s2 : Same H (upd H1 l (.tup ((tl letS).map fun c => V.str ⟨#[c]⟩))) := s1.trans (same_new hl)
          have e1 : inV (.str (cutS z none (some 1))) ((tl letS).map fun c => V.str ⟨#[c]⟩) = fstL z := fst_in z
          show if (inV (.str (cutS z none (some 1))) ((tl letS).map fun c => V.str ⟨#[c]⟩)) = true then _ else _
          rw [e1]
          by_cases hf : fstL z = true
          · rw [hf]
            refine iteT ?_
            refine ⟨_, rfl, T.a_RESERVED, resv.map V.str, rfl, .inr (T.q_RESERVED _), rfl, flat_strs _, ?_⟩
            have q := k _ s2
            have e : ans isN (.str z) = !inV (.str z) (resv.map V.str) := by
              show isN z = _
              unfold isN
              rw [hw2, hf, inV_strs]; rfl
            rw [e] at q
            exact q
          · rw [show fstL z = false by simpa using hf]
            refine iteF ?_
            have q := k _ s2
            have e : ans isN (.str z) = false := by
              show isN z = _
              unfold isN
              rw [hw2, show fstL z = false by simpa using hf]; rfl
            rw [e] at q
            exact q
      · rw [hn.ans] at hw
        cases hw
    · rw [show ans isW v = false by simpa using hw]
      refine iteF ?_
      have e : ans isN v = false := by
        cases v with
        | str z =>
          show isN z = _
          unfold isN
          rw [show isW z = false from Bool.eq_false_iff.mpr hw]; rfl
        | _ => rfl
      have q := k H1 s1
      rw [e] at q
      exact q
theorem ok_path (T : Txt K mg) : FnOk P w K mg base CX0 3 T.f_is_path T.fd_is_path ["value"] (spAsk K isP) := by
  have GN : FnOk P w K mg base CX0 2 T.f_is_name T.fd_is_name ["value"] (spAsk K isN) := ok_name T
  refine T.F_is_path.ok sc_is_path (fun vs H Q E h => ?_) (fun cdv A outer s H vs Q E hr h => ?_)
  · obtain ⟨v, rfl, _⟩ := h
    rfl
  · obtain ⟨v, rfl, ha, k⟩ := h
    refine ⟨_, pss_cons (ps_if (pt_not (pt_val (pe_callB call_isi (by rfl) T.z_isinstance (by decide +kernel) (pa_cons (pv 0) (pa_cons (pe_bltn (v := .ty "str") (by rfl) T.z_str (by decide +kernel) rfl) pa_nil))))) (pss_one (ps_ret pe_bl)) pss_nil)
      (pss_cons (ps_set (i := 1) sc_is_path.nd rfl (Or.inl rfl) (pe_split (pv 0) pe_str))
      (pss_one (ps_ret (pe_and (pe_cmpR op_eq (pe_callB call_len (by rfl) T.z_len PySem.boot_len (pa_cons (pv 1) pa_nil)) pe_int (nomark _))
        (pe_one (pe_callB (cr_all rfl) (by rfl) T.z_all (by decide +kernel) (pa_cons (pe_lc (own := [("part", 2)]) (g := gName 2) (by rfl) sc_is_path.nd (pi_list (pv 1))
          (blkOk_by (own := [("part", 2)]) (N := n_is_path) (sc := defScope s_is_path) (by decide +kernel))
          (fun _ _ _ _ _ => pg_name (i := 2) sc_is_path.nd rfl (Or.inl rfl)) (fun _ _ _ _ _ => pts_nil)
          (fun _ _ _ _ _ => pe_call GN hr rfl T.g_is_name T.F_is_name.kp T.b_is_name .nil pass0 (pa_cons (pv 2) pa_nil))) pa_nil))))))), ?_⟩
    rcases ha with ⟨z, rfl, hz⟩ | hn
    · refine ⟨_, rfl, _, .ty "str", .type "str", .type "str", true, rfl, .ty "str", .base (.str z), kit_ty (by decide +kernel), true, rfl, iteF ?_⟩
      refine ⟨_, rfl, ⟨_, rfl⟩, z, dotS, rfl, rfl, by decide +kernel, by rw [sizeLine_eq]; omega, fun p hp => ?_⟩
      generalize ep : Txt.split z dotS = ps
      have s1 : Same H (upd H p (.lst (ps.map V.str))) := same_new hp
      have eP : isP z = (decide (ps.length = 2) && ps.all isN) := by rw [← ep]; rfl
      refine ⟨_, rfl, _, ps.length, rfl, .inl ⟨_, .inl (.inl upd_same), by rw [List.length_map]⟩, rfl, _, rfl, ?_⟩
      by_cases h2 : ps.length = 2
      · rw [show (decide (V.int (ps.length : Int) = V.int 2)) = true by rw [h2]; rfl]
        refine iteT ?_
        refine ⟨_, rfl, p, rfl, ⟨_, .inl (.inl upd_same)⟩, fun D hD => ?_⟩
        refine lc_list (K := K) (a := p) (xs := ps.map V.str) (fun i H2 => Same (upd H p (.lst (ps.map V.str))) H2 ∧ H2 D = some (.lst (((ps.take i).map isN).map V.bl)))
          ⟨same_new hD, by rw [upd_same]; rfl⟩ (fun i H2 _ q => .inl (.inl (q.1 _ _ upd_same))) ?_ ?_
        · rintro i x H2 hx ⟨q1, q2⟩
          obtain ⟨y, hy, rfl⟩ : ∃ y, ps[i]? = some y ∧ V.str y = x := by
            rw [List.getElem?_map] at hx
            cases e : ps[i]? with
            | none => rw [e] at hx; cases hx
            | some y => rw [e] at hx; exact ⟨y, rfl, Option.some.inj hx⟩
          have hyl : y.length ≤ 1000 := by
            have := split_le z y (by rw [ep]; exact List.mem_of_getElem? hy)
            omega
          refine ⟨rfl, ?_⟩
          refine ⟨_, rfl, _, rfl, .inl ⟨y, rfl, hyl⟩, fun H3 s3 => ⟨_, s3 _ _ q2, ?_, same_in (q1.trans s3) hD, ?_⟩⟩
          · rw [List.length_map, List.length_map]
            have : (ps.take i).length ≤ ps.length := by rw [List.length_take]; omega
            exact small1000 (by omega)
          · rw [upd_same, takes hy, List.map_append, List.map_append]; rfl
        · rintro H2 ⟨q1, q2⟩
          rw [List.length_map, List.take_length] at q2
          refine ⟨D, ps.map isN, rfl, .inl (.inl q2), ?_⟩
          have q := k H2 (s1.trans q1)
          rw [show ans isP (.str z) = ((ps.map isN).all id) by
            show isP z = _
            rw [eP, decide_eq_true h2, Bool.true_and, List.all_map]; rfl] at q
          exact q
      · rw [show (decide (V.int (ps.length : Int) = V.int 2)) = false by
          refine decide_eq_false fun e => h2 ?_
          injection e with e
          omega]
        refine iteF ?_
        have q := k _ s1
        rw [show ans isP (.str z) = false by
          show isP z = _
          rw [eP, decide_eq_false h2, Bool.false_and]] at q
        exact q
    · obtain ⟨t, ty, hk⟩ := id hn
      refine ⟨_, rfl, _, .ty "str", t, .type "str", false, rfl, .ty "str", ty, hk, false, rfl, iteT ?_⟩
      have q := k H (Same.refl H)
      rw [hn.ans] at q
      exact q
end
end Sn

/-! ## The laws' drawn words and names: _law_reserved, _law_any_word, _law_any_name -/
namespace Sn
open PySem PySem.Spec PyProof.Rows L2 TL
def wordsS : Str := "as ask call def each else entry except fail if in let offer return set table there try use"
theorem words_split : Txt.split wordsS " " = resv := by decide +kernel
section
variable {P : Program} {w : World} {K : PySem.W.Frag} {mg : Str → Option Value} {base : Heap}
def spRes : Sp := fun vs H Q _ => vs = [] ∧ ∀ p, H p = none → Q (.ref p) (upd H p (.lst (resv.map V.str)))
theorem ok_reserved (T : Txt K mg) : FnOk P w K mg base CX0 1 T.f_law_reserved T.fd_law_reserved [] spRes := by
  refine T.F_law_reserved.ok sc_law_reserved (fun vs H Q E h => ?_) (fun cdv A outer s H vs Q E hr h => ?_)
  · obtain ⟨rfl, _⟩ := h
    rfl
  · obtain ⟨rfl, k⟩ := h
    refine ⟨_, pss_cons (ps_set (i := 0) sc_law_reserved.nd rfl (Or.inl rfl) pe_str) (pss_one (ps_ret (pe_split (pv 0) pe_str))), ?_⟩
    refine ⟨_, rfl, ⟨_, rfl⟩, wordsS, " ", rfl, rfl, by decide +kernel, by decide +kernel, fun p hp => ?_⟩
    rw [words_split]
    exact k p hp
/-- a drawn word: its length and its signs are told -/
def spAnyW : Sp := fun vs H Q _ => ∃ (d g c : Addr) (m a b : Nat), vs = [.ref d, .int a, .int b] ∧ Dr H d g c m ∧ m + 30 ≤ 1000000000 ∧ a ≤ b ∧ b ≤ 20 ∧
  ∀ (z : Str) (H' : Hp), a ≤ z.length → z.length ≤ b → (∀ x ∈ tl z, x ∈ tl sgnS) → Dr H' d g c (m + 30) → Mv d g H H' → Q (.str z) H'
theorem ok_any_word (T : Txt K mg) : FnOk P w K mg base CX0 4 T.f_law_any_word T.fd_law_any_word ["_law_state", "_law_least", "_law_most"] spAnyW := by
  have GT : FnOk P w K mg base CX0 2 T.f_law_take T.fd_law_take ["_law_state", "_law_size"] spTake := ok_take T
  have GP : FnOk P w K mg base CX0 3 T.f_law_pick T.fd_law_pick ["_law_state", "_law_some"] spPick := ok_pick T
  refine T.F_law_any_word.ok sc_law_any_word (fun vs H Q E h => ?_) (fun cdv A outer s H vs Q E hr h => ?_)
  · obtain ⟨d, g, c, m, a, b, rfl, _⟩ := h
    rfl
  · obtain ⟨d, g, c, m, a, b, rfl, D, hm, hab, hb, k⟩ := h
    have hr2 := hr.mono (j := 2) (by decide)
    refine ⟨_, pss_cons (ps_set (i := 3) sc_law_any_word.nd rfl (Or.inr rfl) pe_str)
      (pss_one (ps_ret (pe_join pe_str (pe_lc (own := [("_law_turn", 4)]) (g := gName 4) (by rfl) sc_law_any_word.nd
        (pi_range1 (by rfl) T.z_range (pa_cons (pe_op op_add (pv 1) (pe_call GT hr2 rfl T.g_law_take T.F_law_take.kp T.b_law_take .nil pass0 (pa_cons (pv 0) (pa_cons (pe_op op_add (pe_op op_sub (pv 2) (pv 1)) pe_int) pa_nil)))) pa_nil))
        (blkOk_by (own := [("_law_turn", 4)]) (N := n_law_any_word) (sc := defScope s_law_any_word) (by decide +kernel))
        (fun _ _ _ _ _ => pg_name (i := 4) sc_law_any_word.nd rfl (Or.inl rfl)) (fun _ _ _ _ _ => pts_nil)
        (fun _ _ _ _ _ => pe_call GP hr rfl T.g_law_pick T.F_law_pick.kp T.b_law_pick .nil pass0 (pa_cons (pv 0) (pa_cons (pv 3) pa_nil))))))), ?_⟩
    refine ⟨⟨_, rfl⟩, _, rfl, _, rfl, _, rfl, _, rfl, _, _, rfl, rfl, _, _, rfl, rfl, d, g, c, m, _, rfl, D, by omega, by omega, by omega, fun r H1 r0 r1 D1 mv1 => ?_⟩
    obtain ⟨n, rfl⟩ := Int.eq_ofNat_of_zero_le r0
    refine ⟨_, _, rfl, rfl, _, rfl, by omega, by omega, fun L hL => ?_⟩
    have nd : ∀ {m : Nat} {H2 : Hp}, Dr H2 d g c m → H2 L = none → L ≠ d ∧ L ≠ g := fun {m H2} D2 h => by
      obtain ⟨⟨l, t, _, _, hd⟩, ⟨gs, hg⟩, _, _⟩ := D2
      exact ⟨(ne_of_none hd h).symm, (ne_of_none hg h).symm⟩
    obtain ⟨nLd, nLg⟩ := nd D1 hL
    have e0 : ((a : Int) + (n : Int)).toNat = a + n := by omega
    refine lc_range (lo := 0) (n := ((a : Int) + (n : Int)).toNat) (fun i H2 => ∃ l : List Nat, l.length = i ∧ (∀ x ∈ l, x ∈ tl sgnS) ∧ H2 L = some (.lst (l.map fun c => V.str ⟨#[c]⟩)) ∧ Dr H2 d g c (m + 1 + i) ∧ Mv d g H H2)
      ⟨[], rfl, (fun x hx => nomatch hx), upd_same, D1.same (same_new hL), mv1.trans (Mv.same (same_new hL))⟩ ?_ ?_
    · rintro i H2 hi ⟨l, rfl, hs, hl, D2, mv2⟩
      refine ⟨rfl, ?_⟩
      refine ⟨_, rfl, _, rfl, d, g, c, _, D2, by omega, .inl ⟨sgnS, rfl, by decide +kernel, by decide +kernel, fun x H3 hx D3 mv3 => ?_⟩⟩
      refine ⟨_, mv3 _ _ nLd nLg hl, by rw [List.length_map]; exact small1000 (by omega), l ++ [x], by simp, ?_, ?_, ?_, ?_⟩
      · intro y hy
        rcases List.mem_append.mp hy with q | q
        · exact hs y q
        · rw [List.mem_singleton.mp q]; exact hx
      · rw [upd_same, List.map_append]; rfl
      · obtain ⟨⟨l1, t1, q0, q1, q2⟩, ⟨gs, q3⟩, ⟨cs, q4⟩, q5⟩ := D3
        have nLc : c ≠ L := fun e => by
          obtain ⟨_, _, ⟨cs', q6⟩, _⟩ := D1
          rw [e, hL] at q6; cases q6
        exact ⟨⟨l1, t1, q0, by omega, by rw [upd_ne nLd.symm]; exact q2⟩, ⟨gs, by rw [upd_ne nLg.symm]; exact q3⟩, ⟨cs, by rw [upd_ne nLc]; exact q4⟩, q5⟩
      · intro b o h1 h2 e
        have nb : b ≠ L := by
          have q := mv1 b o h1 h2 e
          exact ne_of_none q hL
        rw [upd_ne nb]
        exact mv3 _ _ h1 h2 (mv2 _ _ h1 h2 e)
    · rintro H2 ⟨l, hl0, hs, hl, D2, mv2⟩
      refine ⟨_, L, l.map (fun c => (⟨#[c]⟩ : Str)), rfl, rfl, .inl (.inl (.inl (by rw [← signs_map]; exact hl))), ?_, ?_⟩
      · have e1 : ((l.map (fun c => (⟨#[c]⟩ : Str))).map (·.length)).sum = l.length := by
          rw [List.map_map]
          have key : ∀ l : List Nat, (l.map ((fun z : Str => z.length) ∘ fun c => (⟨#[c]⟩ : Str))).sum = l.length := by
            intro l
            induction l with
            | nil => rfl
            | cons x r ih => rw [List.map_cons, List.sum_cons, ih, List.length_cons]; show 1 + r.length = _; omega
          exact key l
        rw [e1, show ("" : Str).length = 0 by decide +kernel]
        omega
      · have e := join_signs l
        have el : (Txt.join "" (l.map fun c => (⟨#[c]⟩ : Str))).length = l.length := by rw [len_tl, e]
        exact k _ _ (by omega) (by omega) (by rw [e]; exact hs) (D2.mono (by omega)) mv2
/-- a drawn name -/
def spAnyN : Sp := fun vs H Q _ => ∃ (d g c : Addr) (m : Nat), vs = [.ref d] ∧ Dr H d g c m ∧ m + 40 ≤ 1000000000 ∧
  ∀ (z : Str) (H' : Hp), isN z = true → Dr H' d g c (m + 40) → Mv d g H H' → Q (.str z) H'
theorem dr_new {H : Hp} {d g c p : Addr} {m : Nat} (D : Dr H d g c m) (h : H p = none) : p ≠ d ∧ p ≠ g ∧ p ≠ c := by
  obtain ⟨⟨l, t, _, _, hd⟩, ⟨gs, hg⟩, ⟨cs, hc⟩, _⟩ := D
  exact ⟨(ne_of_none hd h).symm, (ne_of_none hg h).symm, (ne_of_none hc h).symm⟩
theorem ok_any_name (T : Txt K mg) : FnOk P w K mg base CX0 5 T.f_law_any_name T.fd_law_any_name ["_law_state"] spAnyN := by
  have GT : FnOk P w K mg base CX0 2 T.f_law_take T.fd_law_take ["_law_state", "_law_size"] spTake := ok_take T
  have GP : FnOk P w K mg base CX0 3 T.f_law_pick T.fd_law_pick ["_law_state", "_law_some"] spPick := ok_pick T
  have GR : FnOk P w K mg base CX0 1 T.f_law_reserved T.fd_law_reserved [] spRes := ok_reserved T
  have GA : FnOk P w K mg base CX0 4 T.f_law_any_word T.fd_law_any_word ["_law_state", "_law_least", "_law_most"] spAnyW := ok_any_word T
  refine T.F_law_any_name.ok sc_law_any_name (fun vs H Q E h => ?_) (fun cdv A outer s H vs Q E hr h => ?_)
  · obtain ⟨d, g, c, m, rfl, _⟩ := h
    rfl
  · obtain ⟨d, g, c, m, rfl, D, hm, k⟩ := h
    have hr1 := hr.mono (j := 1) (by decide)
    have hr2 := hr.mono (j := 2) (by decide)
    have hr3 := hr.mono (j := 3) (by decide)
    refine ⟨_, pss_cons (ps_set (i := 1) sc_law_any_name.nd rfl (Or.inl rfl) (pe_cmpR op_eq (pe_call GT hr2 rfl T.g_law_take T.F_law_take.kp T.b_law_take .nil pass0 (pa_cons (pv 0) (pa_cons pe_int pa_nil))) pe_int (nomark _)))
      (pss_cons (ps_set (i := 2) sc_law_any_name.nd rfl (Or.inl rfl) (pe_op op_add_str (pe_call GP hr3 rfl T.g_law_pick T.F_law_pick.kp T.b_law_pick .nil pass0 (pa_cons (pv 0) (pa_cons pe_str pa_nil)))
          (pe_call GA hr rfl T.g_law_any_word T.F_law_any_word.kp T.b_law_any_word .nil pass0 (pa_cons (pv 0) (pa_cons pe_int (pa_cons pe_int pa_nil))))))
      (pss_cons (ps_if (pt_val (pv 1)) (pss_one (ps_set (i := 2) sc_law_any_name.nd rfl (Or.inl rfl)
          (pe_op op_add_str (pe_call GP hr3 rfl T.g_law_pick T.F_law_pick.kp T.b_law_pick .nil pass0 (pa_cons (pv 0) (pa_cons (pe_call0 GR hr1 rfl T.g_law_reserved T.F_law_reserved.kp T.b_law_reserved .nil pass0) pa_nil)))
            (pe_call GP hr3 rfl T.g_law_pick T.F_law_pick.kp T.b_law_pick .nil pass0 (pa_cons (pv 0) (pa_cons (pe_lst (pa_cons pe_str (pa_cons pe_str (pa_cons pe_str (pa_cons pe_str pa_nil))))) pa_nil)))))) pss_nil)
      (pss_one (ps_ret (pe_ifExp (pt_cmpR op_notIn_seq (pv 2) (pe_call0 GR hr1 rfl T.g_law_reserved T.F_law_reserved.kp T.b_law_reserved .nil pass0) (by rfl)) (pv 2)
        (pe_op op_add_str (pe_slice sl_str (pv 2) po_none (po_some pe_int)) pe_str)))))), ?_⟩
    -- near = take(state, 4) == 0
    refine ⟨_, rfl, d, g, c, m, _, rfl, D, by omega, by decide, by decide, fun r H1 r0 r1 D1 mv1 => ?_⟩
    refine ⟨rfl, ?_⟩
    -- word = pick(..) + any_word(state, 0, 7)
    refine ⟨_, rfl, d, g, c, _, D1, by omega, .inl ⟨letS, rfl, by decide +kernel, by decide +kernel, fun x H2 hx D2 mv2 => ?_⟩⟩
    refine ⟨_, rfl, d, g, c, _, 0, 7, rfl, D2, by omega, by omega, by omega, fun z H3 z0 z1 hz D3 mv3 => ?_⟩
    refine ⟨_, _, rfl, rfl, by rw [sizeLine_eq]; show 1 + z.length ≤ 16777216; omega, ?_⟩
    have m03 : Mv d g H H3 := (mv1.trans mv2).trans mv3
    have ez : tl ((⟨#[x]⟩ : Str) ++ z) = x :: tl z := by rw [tl_append]; rfl
    refine ⟨_, rfl, _, rfl, ite2 (fun _ => ?_) (fun _ => ?_)⟩
    · -- a name near to a reserved word
      refine ⟨_, rfl, rfl, fun p hp => ?_⟩
      obtain ⟨n1, n2, n3⟩ := dr_new D3 hp
      refine ⟨d, g, c, _, D3.same (same_new hp), by omega, .inr ⟨p, _, rfl, upd_same, n2, by decide +kernel, by decide +kernel, fun y H4 hy D4 mv4 => ?_⟩⟩
      obtain ⟨y, hy2, rfl⟩ := List.mem_map.mp hy
      refine ⟨_, rfl, (by show 4 ≤ sizeLine; decide), fun q hq => ?_⟩
      obtain ⟨n4, n5, n6⟩ := dr_new D4 hq
      refine ⟨d, g, c, _, D4.same (same_new hq), by omega, .inr ⟨q, sufS.map V.str, rfl, upd_same, n5, by decide +kernel, by decide +kernel, fun v H5 hv D5 mv5 => ?_⟩⟩
      obtain ⟨v, hv2, rfl⟩ := List.mem_map.mp hv
      have hN : isN (y ++ v) = true := near_ok y hy2 v hv2
      have hL := isN_len hN
      have ly := resv_len y hy2
      have lv := suf_len v hv2
      refine ⟨_, _, rfl, rfl, by rw [sizeLine_eq]; omega, ?_⟩
      have m05 : Mv d g H H5 := (((m03.trans (Mv.same (same_new hp))).trans mv4).trans (Mv.same (same_new hq))).trans mv5
      refine ⟨_, rfl, rfl, fun u hu => ?_⟩
      refine ⟨u, _, rfl, .inl (.inl (.inl upd_same)), rfl, flat_strs _, _, rfl, ?_⟩
      rw [show (if true = true then !inV (V.str (y ++ v)) (resv.map V.str) else inV (V.str (y ++ v)) (resv.map V.str)) = true by
        rw [if_pos rfl, inV_strs, decide_eq_false (isN_res hN)]; rfl]
      refine iteT ⟨_, rfl, ?_⟩
      exact k _ _ hN ((D5.same (same_new hu)).mono (by omega)) (m05.trans (Mv.same (same_new hu)))
    · refine ⟨_, rfl, rfl, fun u hu => ?_⟩
      refine ⟨u, _, rfl, .inl (.inl (.inl upd_same)), rfl, flat_strs _, _, rfl, ?_⟩
      have D4 := (D3.same (same_new (o := .lst (resv.map V.str)) hu)).mono (show m + 1 + 1 + 30 ≤ m + 40 by omega)
      have m04 := m03.trans (Mv.same (same_new (o := .lst (resv.map V.str)) hu))
      rw [show (if true = true then !inV (V.str ((⟨#[x]⟩ : Str) ++ z)) (resv.map V.str) else inV (V.str ((⟨#[x]⟩ : Str) ++ z)) (resv.map V.str)) = !decide ((⟨#[x]⟩ : Str) ++ z ∈ resv) by
        rw [if_pos rfl, inV_strs]]
      by_cases hin : (⟨#[x]⟩ : Str) ++ z ∈ resv
      · rw [decide_eq_true hin]
        refine iteF ?_
        have hl := resv_len _ hin
        refine ⟨_, rfl, _, rfl, _, rfl, by rw [sizeLine_eq]; omega, _, _, rfl, rfl, ?_, ?_⟩
        · have q := cutS_length ((⟨#[x]⟩ : Str) ++ z) none (some 7)
          rw [sizeLine_eq, show ("_" : Str).length = 1 by decide +kernel]
          omega
        · exact k _ _ (isN_cut ez hx hz) D4 m04
      · rw [decide_eq_false hin]
        refine iteT ⟨_, rfl, ?_⟩
        exact k _ _ (isN_of ez hx hz (by rw [← len_tl]; exact z1) hin) D4 m04
end
end Sn

/-! ## law_k02: the law's own reading of words, names, paths; what it draws; the law -/
namespace Sn
open PySem PySem.Spec PyProof.Rows L2 TL
def Asc (z : Str) : Prop := ∀ c ∈ tl z, c < 128
theorem asc_app {x y : Str} (a : Asc x) (b : Asc y) : Asc (x ++ y) := fun c h => by
  rw [tl_append] at h
  exact (List.mem_append.mp h).elim (a c) (b c)
theorem asc_cut {z : Str} (a : Asc z) (lo hi : Option Int) : Asc (cutS z lo hi) := fun c h => a c (List.mem_of_mem_drop (List.mem_of_mem_take h))
theorem sgn_asc : ∀ c ∈ tl sgnS, c < 128 := by decide +kernel
theorem asc_name {z : Str} (h : isN z = true) : Asc z := fun c hc => by
  unfold isN isW at h
  simp only [Bool.and_eq_true, List.all_eq_true, decide_eq_true_eq] at h
  exact sgn_asc c (h.1.2 c hc)
/-- a text of few plain signs, or no text -/
def Arg2 (K : PySem.W.Frag) (H : Hp) (v : V) : Prop := (∃ z : Str, v = .str z ∧ z.length ≤ 1000 ∧ Asc z) ∨ NoStr K H v
theorem Arg2.arg {K : PySem.W.Frag} {H : Hp} {v : V} (h : Arg2 K H v) : Arg K H v := by
  rcases h with ⟨z, e, l, _⟩ | h
  · exact .inl ⟨z, e, l⟩
  · exact .inr h
theorem Arg2.same {K : PySem.W.Frag} {H H' : Hp} {v : V} (h : Arg2 K H v) (s : Same H H') : Arg2 K H' v := by
  rcases h with h | ⟨t, ty, hk⟩
  · exact .inl h
  · exact .inr ⟨t, tyX_same s ty, hk⟩
def spAsk2 (K : PySem.W.Frag) (f : Str → Bool) : Sp := fun vs H Q _ => ∃ v : V, vs = [v] ∧ Arg2 K H v ∧ ∀ H', Same H H' → Q (.bl (ans f v)) H'
theorem dp_strs {K : PySem.W.Frag} {H : Hp} : ∀ l : List Str, DpAll K H (l.map V.str) (l.map PyData.str)
  | [] => .nil
  | z :: r => .cons (.str z) (dp_strs r)
theorem shaped_strs (l : List Str) (h : ∀ z ∈ l, Asc z) : SeqAt.shaped (.list (l.map PyData.str)) = true := by
  have h1 : ∀ l : List Str, (∀ z ∈ l, Asc z) → PyData.canLayAll0 (l.map PyData.str) = true := by
    intro l
    induction l with
    | nil => intro _; rfl
    | cons z r ih =>
      intro h
      have hz : PyData.strOk z = true := by
        unfold PyData.strOk
        rw [← Array.all_toList, List.all_eq_true]
        intro c hc
        have := h z (List.mem_cons.mpr (.inl rfl)) c hc
        exact decide_eq_true (by omega)
      simp only [List.map_cons, PyData.canLayAll0, PyData.canLay0, hz, ih fun y hy => h y (List.mem_cons.mpr (.inr hy))]
      rfl
  have h2 : ∀ l : List Str, PyData.depthAll (l.map PyData.str) = 0 := by
    intro l
    induction l with
    | nil => rfl
    | cons z r ih => simp [PyData.depthAll, PyData.depth, ih]
  simp [SeqAt.shaped, PyData.canLay0, PyData.depth, h1 l h, h2 l]
theorem eqv_nil (l : List Str) : PyData.eqv (.list (l.map PyData.str)) (.list []) = l.isEmpty := by
  cases l <;> rfl
theorem all_filter (l : List Nat) (p : Nat → Bool) : (l.filter fun c => !p c).isEmpty = l.all p := by
  induction l with
  | nil => rfl
  | cons a r ih =>
    rw [List.filter_cons, List.all_cons]
    cases p a
    · rfl
    · rw [if_neg (by simp), ih]; rfl
def digS : Str := "0123456789_"
theorem sgn_two : ∀ c ∈ tl sgnS, (!decide (c ∈ tl digS)) = decide (c ∈ tl letS) := by decide +kernel

section
variable {P : Program} {w : World} {K : PySem.W.Frag} {mg : Str → Option Value} {base : Heap}
theorem ok_lword (T : Txt K mg) : FnOk P w K mg base CX0 1 T.f_law_is_word T.fd_law_is_word ["_law_worth"] (spAsk2 K isW) := by
  refine T.F_law_is_word.ok sc_law_is_word (fun vs H Q E h => ?_) (fun cdv A outer s H vs Q E hr h => ?_)
  · obtain ⟨v, rfl, _⟩ := h
    rfl
  · obtain ⟨v, rfl, ha, k⟩ := h
    refine ⟨_, pss_cons (ps_set (i := 1) sc_law_is_word.nd rfl (Or.inr rfl) pe_str)
      (pss_one (ps_ret (pe_and (pe_callB call_isi (by rfl) T.z_isinstance (by decide +kernel) (pa_cons (pv 0) (pa_cons (pe_bltn (v := .ty "str") (by rfl) T.z_str (by decide +kernel) rfl) pa_nil)))
      (pe_and (pe_cmpR op_lt (pe_callB call_len (by rfl) T.z_len PySem.boot_len (pa_cons (pv 0) pa_nil)) pe_int (nomark _))
      (pe_one (pe_cmpR (op_eqD hr.units) (pe_lc (own := [("_law_sign", 2)]) (g := gName 2) (by rfl) sc_law_is_word.nd (pi_str (pv 0))
        (blkOk_by (own := [("_law_sign", 2)]) (N := n_law_is_word) (sc := defScope s_law_is_word) (by decide +kernel))
        (fun _ _ _ _ _ => pg_name (i := 2) sc_law_is_word.nd rfl (Or.inl rfl)) (fun _ _ _ _ _ => pts_one (pt_cmpR op_notIn_sign (pv 2) (pv 1) rfl))
        (fun _ _ _ _ _ => pv 2)) (pe_lst pa_nil) (nomark _))))))), ?_⟩
    rcases ha with ⟨z, rfl, hz, hA⟩ | hn
    · refine ⟨_, rfl, _, .ty "str", .type "str", .type "str", true, rfl, .ty "str", .base (.str z), kit_ty (by decide +kernel), true, rfl, iteT ?_⟩
      refine ⟨_, rfl, _, z.length, rfl, ⟨len_le hz, rfl⟩, _, _, rfl, rfl, _, rfl, ?_⟩
      by_cases h8 : z.length ≤ 8
      · rw [decide_eq_true (show (z.length : Int) < 9 by omega)]
        refine iteT ?_
        refine ⟨_, rfl, z, rfl, fun D hD => ?_⟩
        refine lc_it walk_str (fun i H1 => H1 = upd H D (.lst ((((tl z).take i).filter fun c => !decide (c ∈ tl sgnS)).map fun c => V.str ⟨#[c]⟩))) rfl (fun _ _ _ _ => trivial) ?_ ?_
        · rintro i x H1 H2 hi rfl ⟨rfl, c, hc, rfl⟩
          have hc2 : (tl z)[i]? = some c := by simpa using hc
          refine ⟨rfl, _, rfl, _, rfl, c, sgnS, rfl, rfl, _, rfl, ?_⟩
          by_cases hin : c ∈ tl sgnS
          · rw [decide_eq_true hin]
            refine iteF ?_
            rw [takes hc2, List.filter_append, List.filter_cons, if_neg (by simp [hin]), List.filter_nil, List.append_nil]
          · rw [decide_eq_false hin]
            refine iteT ⟨_, rfl, _, upd_same, ?_, ?_⟩
            · rw [List.length_map]
              have h1 := List.length_filter_le (fun c => !decide (c ∈ tl sgnS)) ((tl z).take i)
              have h2 : ((tl z).take i).length ≤ z.length := by rw [List.length_take, len_tl]; omega
              exact small1000 (by omega)
            · rw [upd_upd, takes hc2, List.filter_append, List.filter_cons, if_pos (by simp [hin]), List.filter_nil, List.map_append]; rfl
        · rintro H1 rfl
          rw [show z.cps.size = (tl z).length by simp, List.take_length]
          refine ⟨by decide, fun p hp => ?_⟩
          have hD2 := (same_new hp : Same _ (upd _ p (.lst []))) D _ (upd_same (H := H) (a := D) (o := .lst (((tl z).filter fun c => !decide (c ∈ tl sgnS)).map fun c => V.str ⟨#[c]⟩)))
          refine ⟨_, _, .lst (.inl (.inl (by rw [hD2, signs_map]))) (dp_strs _), .lst (.inl (.inl upd_same)) .nil, shaped_strs _ ?_, by decide, ?_⟩
          · intro y hy
            obtain ⟨c, hc, rfl⟩ := List.mem_map.mp hy
            intro x hx
            rw [List.mem_singleton.mp (show x ∈ [c] from hx)]
            exact hA c (List.mem_filter.mp hc).1
          · have q := k _ ((same_new (H := H) (p := D) (o := .lst (((tl z).filter fun c => !decide (c ∈ tl sgnS)).map fun c => V.str ⟨#[c]⟩)) hD).trans (same_new (o := .lst []) hp))
            rw [show ans isW (.str z) = PyData.eqv (.list ((((tl z).filter fun c => !decide (c ∈ tl sgnS)).map fun c => (⟨#[c]⟩ : Str)).map PyData.str)) (.list []) by
              show isW z = _
              rw [eqv_nil]
              unfold isW
              rw [decide_eq_true h8, Bool.true_and, ← all_filter]
              cases (tl z).filter fun c => !decide (c ∈ tl sgnS) <;> rfl] at q
            exact q
      · rw [decide_eq_false (show ¬ (z.length : Int) < 9 by omega)]
        refine iteF ?_
        have q := k H (Same.refl H)
        rw [show ans isW (.str z) = false by
          show isW z = _
          unfold isW
          rw [decide_eq_false h8, Bool.false_and]] at q
        exact q
    · obtain ⟨t, ty, hk⟩ := id hn
      refine ⟨_, rfl, _, .ty "str", t, .type "str", false, rfl, .ty "str", ty, hk, false, rfl, iteF ?_⟩
      have q := k H (Same.refl H)
      rw [hn.ans] at q
      exact q
theorem ok_lname (T : Txt K mg) : FnOk P w K mg base CX0 2 T.f_law_is_name T.fd_law_is_name ["_law_worth"] (spAsk2 K isN) := by
  have GW : FnOk P w K mg base CX0 1 T.f_law_is_word T.fd_law_is_word ["_law_worth"] (spAsk2 K isW) := ok_lword T
  have GR : FnOk P w K mg base CX0 1 T.f_law_reserved T.fd_law_reserved [] spRes := ok_reserved T
  refine T.F_law_is_name.ok sc_law_is_name (fun vs H Q E h => ?_) (fun cdv A outer s H vs Q E hr h => ?_)
  · obtain ⟨v, rfl, _⟩ := h
    rfl
  · obtain ⟨v, rfl, ha, k⟩ := h
    refine ⟨_, pss_cons (ps_if (PW.pt (pw_or (pt_not (pt_val (pe_call GW hr rfl T.g_law_is_word T.F_law_is_word.kp T.b_law_is_word .nil pass0 (pa_cons (pv 0) pa_nil))))
        (pw_or1 (pt_cmpR op_in_seq (pv 0) (pe_call0 GR hr rfl T.g_law_reserved T.F_law_reserved.kp T.b_law_reserved .nil pass0) (by rfl))))) (pss_one (ps_ret pe_bl)) pss_nil)
      (pss_one (ps_ret (pe_and (pe_cmpR op_ne (pv 0) pe_str (nomark _)) (pe_one (pe_cmpR op_notIn_sign (pe_ix ix_str (pv 0) pe_int (fun _ _ => rfl)) pe_str rfl))))), ?_⟩
    refine ⟨_, rfl, v, rfl, ha, fun H1 s1 => ⟨_, rfl, ?_⟩⟩
    by_cases hw : ans isW v = true
    · rw [hw]
      refine iteF ?_
      rcases ha with ⟨z, rfl, hz, hA⟩ | hn
      · have hw2 : isW z = true := hw
        refine ⟨_, rfl, rfl, fun p hp => ?_⟩
        have s2 : Same H (upd H1 p (.lst (resv.map V.str))) := s1.trans (same_new hp)
        refine ⟨p, _, rfl, .inl (.inl (.inl upd_same)), rfl, flat_strs _, _, rfl, ?_⟩
        rw [show (if false = true then !inV (V.str z) (resv.map V.str) else inV (V.str z) (resv.map V.str)) = decide (z ∈ resv) by
          rw [if_neg (by decide), inV_strs]]
        by_cases hin : z ∈ resv
        · rw [decide_eq_true hin]
          refine iteT ?_
          have q := k _ s2
          rw [show ans isN (.str z) = false by
            show isN z = _
            unfold isN
            rw [decide_eq_true hin]; simp] at q
          exact q
        · rw [decide_eq_false hin]
          refine iteF ?_
          refine ⟨_, rfl, rfl, _, rfl, ?_⟩
          match e : tl z with
          | [] =>
            have ez : z = "" := ext_tl (by rw [e]; decide +kernel)
            rw [show (!decide (V.str z = V.str "")) = false by rw [ez]; simp]
            refine iteF ?_
            have q := k _ s2
            rw [show ans isN (.str z) = false by
              show isN z = _
              unfold isN fstL
              rw [e]; simp] at q
            exact q
          | c :: r =>
            rw [show (!decide (V.str z = V.str "")) = true by
              rw [decide_eq_false]; · rfl
              intro q
              injection q with q
              rw [q] at e
              have e2 : tl ("" : Str) = [] := by decide +kernel
              rw [e2] at e; cases e]
            refine iteT ?_
            refine ⟨_, rfl, z, 0, c, rfl, rfl, len_le hz, ?_, c, digS, rfl, rfl, ?_⟩
            · show atI (tl z) ((0 : Nat) : Int) = some c
              rw [e]
              exact atI_nat rfl
            · have q := k _ s2
              have hcs : c ∈ tl sgnS := by
                unfold isW at hw2
                rw [e] at hw2
                simp only [Bool.and_eq_true, List.all_cons, decide_eq_true_eq] at hw2
                exact hw2.2.1
              rw [show ans isN (.str z) = (!decide (c ∈ tl digS)) by
                show isN z = _
                unfold isN fstL
                rw [hw2, e, decide_eq_false hin, sgn_two c hcs]; simp] at q
              exact q
      · rw [hn.ans] at hw
        cases hw
    · rw [show ans isW v = false by simpa using hw]
      refine iteT ?_
      have q := k H1 s1
      rw [show ans isN v = false by
        cases v with
        | str z =>
          show isN z = _
          unfold isN
          rw [show isW z = false from Bool.eq_false_iff.mpr hw]; rfl
        | _ => rfl] at q
      exact q
end
end Sn

namespace Sn
open PySem PySem.Spec PyProof.Rows L2 TL
section
variable {P : Program} {w : World} {K : PySem.W.Frag} {mg : Str → Option Value} {base : Heap}
theorem ok_lpath (T : Txt K mg) : FnOk P w K mg base CX0 3 T.f_law_is_path T.fd_law_is_path ["_law_worth"] (spAsk2 K isP) := by
  have GN : FnOk P w K mg base CX0 2 T.f_law_is_name T.fd_law_is_name ["_law_worth"] (spAsk2 K isN) := ok_lname T
  refine T.F_law_is_path.ok sc_law_is_path (fun vs H Q E h => ?_) (fun cdv A outer s H vs Q E hr h => ?_)
  · obtain ⟨v, rfl, _⟩ := h
    rfl
  · obtain ⟨v, rfl, ha, k⟩ := h
    refine ⟨_, pss_cons (ps_if (PW.pt (pw_or (pt_not (pt_val (pe_callB call_isi (by rfl) T.z_isinstance (by decide +kernel) (pa_cons (pv 0) (pa_cons (pe_bltn (v := .ty "str") (by rfl) T.z_str (by decide +kernel) rfl) pa_nil)))))
        (pw_or1 (pt_cmpR op_ne (pe_m1 PySem.F.slot_str_count PySem.F.type_str_count mt_count (pv 0) pe_str) pe_int (nomark _))))) (pss_one (ps_ret pe_bl)) pss_nil)
      (pss_cons (ps_set (i := 1) sc_law_is_path.nd rfl (Or.inl rfl) (pe_m1 PySem.F.slot_str_find PySem.F.type_str_find mt_find (pv 0) pe_str))
      (pss_one (ps_ret (pe_and (pe_call GN hr rfl T.g_law_is_name T.F_law_is_name.kp T.b_law_is_name .nil pass0 (pa_cons (pe_slice sl_str (pv 0) po_none (po_some (pv 1))) pa_nil))
        (pe_one (pe_call GN hr rfl T.g_law_is_name T.F_law_is_name.kp T.b_law_is_name .nil pass0 (pa_cons (pe_slice sl_str (pv 0) (po_some (pe_op op_add (pv 1) pe_int)) po_none) pa_nil))))))), ?_⟩
    rcases ha with ⟨z, rfl, hz, hA⟩ | hn
    · refine ⟨_, rfl, _, .ty "str", .type "str", .type "str", true, rfl, .ty "str", .base (.str z), kit_ty (by decide +kernel), true, rfl, iteF ?_⟩
      refine ⟨_, rfl, ⟨_, rfl⟩, z, dotS, rfl, rfl, rfl, _, rfl, ?_⟩
      have hP : ans isP (.str z) = lawP z := (path_law z).symm
      by_cases h1 : Txt.count z dotS = 1
      · rw [show (!decide (V.int (Txt.count z dotS) = V.int 1)) = false by rw [h1]; simp]
        refine iteF ?_
        have hP2 : ans isP (.str z) = (isN (cutS z none (some (Txt.find z dotS))) && isN (cutS z (some (Txt.find z dotS + 1)) none)) := by
          rw [hP]; unfold lawP; rw [if_pos h1]
        refine ⟨_, rfl, ⟨_, rfl⟩, z, dotS, rfl, rfl, ?_⟩
        refine ⟨_, rfl, _, rfl, _, rfl, z, rfl, len_le hz, _, rfl, .inl ⟨_, rfl, Nat.le_trans (cutS_length _ _ _) hz, asc_cut hA _ _⟩, fun H1 s1 => ⟨_, rfl, ?_⟩⟩
        show if isN (cutS z none (some (Txt.find z dotS))) = true then _ else _
        by_cases hb : isN (cutS z none (some (Txt.find z dotS))) = true
        · rw [hb]
          refine iteT ?_
          refine ⟨_, rfl, _, rfl, _, _, rfl, rfl, _, rfl, z, rfl, len_le hz, _, rfl, .inl ⟨_, rfl, Nat.le_trans (cutS_length _ _ _) hz, asc_cut hA _ _⟩, fun H2 s2 => ?_⟩
          have q := k _ (s1.trans s2)
          rw [hP2, hb, Bool.true_and] at q
          exact q
        · rw [show isN (cutS z none (some (Txt.find z dotS))) = false by simpa using hb]
          refine iteF ?_
          have q := k _ s1
          rw [hP2, show isN (cutS z none (some (Txt.find z dotS))) = false by simpa using hb, Bool.false_and] at q
          exact q
      · rw [show (!decide (V.int (Txt.count z dotS) = V.int 1)) = true by
          rw [decide_eq_false]; · rfl
          intro q
          injection q with q
          exact h1 q]
        refine iteT ?_
        have q := k H (Same.refl H)
        rw [hP] at q
        unfold lawP at q
        rw [if_neg h1] at q
        exact q
    · obtain ⟨t, ty, hk⟩ := id hn
      refine ⟨_, rfl, _, .ty "str", t, .type "str", false, rfl, .ty "str", ty, hk, false, rfl, iteT ?_⟩
      have q := k H (Same.refl H)
      rw [hn.ans] at q
      exact q
/-- a text with one sign changed: a text of plain signs, at most one sign longer -/
def spSpoilt : Sp := fun vs H Q _ => ∃ (d g c : Addr) (m : Nat) (z : Str), vs = [.ref d, .str z] ∧ Dr H d g c m ∧ m + 10 ≤ 1000000000 ∧ z.length ≤ 900 ∧ Asc z ∧
  ∀ (y : Str) (H' : Hp), y.length ≤ z.length + 1 → Asc y → Dr H' d g c (m + 10) → Mv d g H H' → Q (.str y) H'
def someS : Str := " !#$&'()*+,-./0123456789:;<=>?@ABCDEFGHIJKLMNOPQRSTUVWXYZ[]^_`" ++ "abcdefghijklmnopqrstuvwxyz{|}~" ++ "\"\n\\"
def fewS : Str := "._ 0aA\n"
theorem some_asc : ∀ c ∈ tl someS, c < 128 := by decide +kernel
theorem few_asc : ∀ c ∈ tl fewS, c < 128 := by decide +kernel
theorem asc_one {c : Nat} (h : c < 128) : Asc ⟨#[c]⟩ := fun x hx => by
  rw [List.mem_singleton.mp (show x ∈ [c] from hx)]
  exact h
theorem asc_nil : Asc "" := by unfold Asc; decide +kernel
theorem len_app (x y : Str) : (x ++ y).length = x.length + y.length := by rw [len_tl, tl_append, List.length_append, ← len_tl, ← len_tl]
/-- the parts ahead of a place and from it on, or behind it -/
theorem cut_two (z : Str) (a b : Nat) (hb : a ≤ b) : (cutS z none (some (a : Int))).length + (cutS z (some (b : Int)) none).length ≤ z.length := by
  rw [len_tl, len_tl]
  show (((tl z).drop (HT.sIx z.length 0 none)).take _).length + (((tl z).drop (HT.sIx z.length 0 (some (b : Int)))).take _).length ≤ _
  rw [HT.sIx_nat, HT.sIx_none, HT.sIx_nat, HT.sIx_none]
  simp only [List.length_take, List.length_drop, ← len_tl]
  omega
theorem ok_spoilt (T : Txt K mg) : FnOk P w K mg base CX0 4 T.f_law_spoilt T.fd_law_spoilt ["_law_state", "_law_worth"] spSpoilt := by
  have GT : FnOk P w K mg base CX0 2 T.f_law_take T.fd_law_take ["_law_state", "_law_size"] spTake := ok_take T
  have GP : FnOk P w K mg base CX0 3 T.f_law_pick T.fd_law_pick ["_law_state", "_law_some"] spPick := ok_pick T
  refine T.F_law_spoilt.ok sc_law_spoilt (fun vs H Q E h => ?_) (fun cdv A outer s H vs Q E hr h => ?_)
  · obtain ⟨d, g, c, m, z, rfl, _⟩ := h
    rfl
  · obtain ⟨d, g, c, m, z, rfl, D, hm, hz, hA, k⟩ := h
    have hr2 := hr.mono (j := 2) (by decide)
    refine ⟨_, pss_cons (ps_set (i := 2) sc_law_spoilt.nd rfl (Or.inl rfl) pe_str)
      (pss_cons (ps_set (i := 2) sc_law_spoilt.nd rfl (Or.inl rfl) (pe_op op_add_str (pe_op op_add_str (pv 2) pe_str) pe_str))
      (pss_cons (ps_par (i := 3) (j := 4) (by rfl) sc_law_spoilt.nd rfl rfl (by decide) rfl rfl
        (pa_cons (pe_call GT hr2 rfl T.g_law_take T.F_law_take.kp T.b_law_take .nil pass0 (pa_cons (pv 0) (pa_cons pe_int pa_nil)))
          (pa_cons (pe_call GT hr2 rfl T.g_law_take T.F_law_take.kp T.b_law_take .nil pass0 (pa_cons (pv 0) (pa_cons (pe_op op_add (pe_callB call_len (by rfl) T.z_len PySem.boot_len (pa_cons (pv 1) pa_nil)) pe_int) pa_nil))) pa_nil)) (by rfl))
      (C8.pss_cut (ps_set (i := 5) sc_law_spoilt.nd rfl (Or.inl rfl) (pe_ifExp (pt_cmpR op_eq (pe_call GT hr2 rfl T.g_law_take T.F_law_take.kp T.b_law_take .nil pass0 (pa_cons (pv 0) (pa_cons pe_int pa_nil))) pe_int (nomark _))
          (pe_call GP hr rfl T.g_law_pick T.F_law_pick.kp T.b_law_pick .nil pass0 (pa_cons (pv 0) (pa_cons (pv 2) pa_nil)))
          (pe_call GP hr rfl T.g_law_pick T.F_law_pick.kp T.b_law_pick .nil pass0 (pa_cons (pv 0) (pa_cons pe_str pa_nil)))))
      (pss_one (ps_ret (pe_op op_add_str (pe_op op_add_str (pe_slice sl_str (pv 1) po_none (po_some (pv 4))) (pe_ifExp (pt_cmpR op_lt (pv 3) pe_int (nomark _)) (pv 5) pe_str))
        (pe_slice sl_str (pv 1) (po_some (pe_op op_add (pv 4) (pe_callTy call_int1 (by rfl) T.z_int (by decide +kernel) (pa_cons (pe_cmpR op_gt (pv 3) pe_int (nomark _)) pa_nil)))) po_none))))))), ?_⟩
    refine ⟨_, rfl, _, _, rfl, rfl, by decide +kernel, _, _, rfl, rfl, by decide +kernel, ?_⟩
    refine ⟨_, rfl, d, g, c, m, _, rfl, D, by omega, by decide, by decide, fun r H1 r0 r1 D1 mv1 => ?_⟩
    refine ⟨_, rfl, _, rfl, _, _, rfl, ⟨len_le (by omega), rfl⟩, _, _, rfl, rfl, d, g, c, _, _, rfl, D1, by omega, by omega, by omega, fun a H2 a0 a1 D2 mv2 => ?_⟩
    refine ⟨_, _, rfl, ?_⟩
    obtain ⟨i, rfl⟩ := Int.eq_ofNat_of_zero_le a0
    refine ⟨fun σ H4 => ∃ x : Nat, x < 128 ∧ σ = [some (.ref d), some (.str z), some (.str someS), some (.int r), some (.int (i : Int)), some (.str ⟨#[x]⟩)] ∧ Dr H4 d g c (m + 10) ∧ Mv d g H H4, ?_, ?_⟩
    · refine ⟨_, rfl, d, g, c, _, _, rfl, D2, by omega, by decide, by decide, fun b H3 b0 b1 D3 mv3 => ?_⟩
      refine ⟨rfl, _, rfl, ite2 (fun _ => ?_) (fun _ => ?_)⟩
      · refine ⟨_, rfl, _, rfl, d, g, c, _, D3, by omega, .inl ⟨someS, rfl, by decide +kernel, by decide +kernel, fun x H4 hx D4 mv4 => ?_⟩⟩
        exact ⟨x, some_asc x hx, rfl, D4.mono (by omega), ((mv1.trans mv2).trans mv3).trans mv4⟩
      · refine ⟨_, rfl, d, g, c, _, D3, by omega, .inl ⟨fewS, rfl, by decide +kernel, by decide +kernel, fun x H4 hx D4 mv4 => ?_⟩⟩
        exact ⟨x, few_asc x hx, rfl, D4.mono (by omega), ((mv1.trans mv2).trans mv3).trans mv4⟩
    · rintro σ H4 ⟨x, hx, rfl, D4, mv4⟩
      have hs : z.length ≤ sizeLine := len_le (by omega)
      refine ⟨_, rfl, _, rfl, _, rfl, z, rfl, hs, _, rfl, _, _, rfl, rfl, _, rfl, ?_⟩
      have l1 := cut_two z i (i + 1) (by omega)
      have l0 := cut_two z i i (by omega)
      have c1 : ((i : Int) + 1) = ((i + 1 : Nat) : Int) := rfl
      refine ite2 (fun h2 => ?_) (fun h2 => ?_)
      · refine ⟨_, rfl, _, _, rfl, rfl, by rw [sizeLine_eq]; show _ + 1 ≤ _; omega, ?_⟩
        refine ⟨_, rfl, _, rfl, _, rfl, _, _, rfl, rfl, .inr ⟨_, rfl, _, _, rfl, rfl, _, rfl, z, rfl, hs, _, _, rfl, rfl, ?_⟩⟩
        by_cases h3 : (0 : Int) < r
        · rw [decide_eq_true h3]
          show _ ≤ _ ∧ _
          rw [if_pos rfl, c1, len_app]
          refine ⟨by rw [sizeLine_eq]; show _ + 1 + _ ≤ _; omega, k _ _ ?_ (asc_app (asc_app (asc_cut hA _ _) (asc_one hx)) (asc_cut hA _ _)) D4 mv4⟩
          rw [len_app, len_app]; show _ + 1 + _ ≤ _; omega
        · rw [decide_eq_false h3]
          show _ ≤ _ ∧ _
          rw [if_neg (by decide), Int.add_zero, len_app]
          refine ⟨by rw [sizeLine_eq]; show _ + 1 + _ ≤ _; omega, k _ _ ?_ (asc_app (asc_app (asc_cut hA _ _) (asc_one hx)) (asc_cut hA _ _)) D4 mv4⟩
          rw [len_app, len_app]; show _ + 1 + _ ≤ _; omega
      · have e0 : ("" : Str).length = 0 := by decide +kernel
        refine ⟨_, _, rfl, rfl, by rw [sizeLine_eq, e0]; omega, ?_⟩
        refine ⟨_, rfl, _, rfl, _, rfl, _, _, rfl, rfl, .inr ⟨_, rfl, _, _, rfl, rfl, _, rfl, z, rfl, hs, _, _, rfl, rfl, ?_⟩⟩
        by_cases h3 : (0 : Int) < r
        · rw [decide_eq_true h3]
          show _ ≤ _ ∧ _
          rw [if_pos rfl, c1, len_app, e0]
          refine ⟨by rw [sizeLine_eq]; omega, k _ _ ?_ (asc_app (asc_app (asc_cut hA _ _) asc_nil) (asc_cut hA _ _)) D4 mv4⟩
          rw [len_app, len_app, e0]; omega
        · rw [decide_eq_false h3]
          show _ ≤ _ ∧ _
          rw [if_neg (by decide), Int.add_zero, len_app, e0]
          refine ⟨by rw [sizeLine_eq]; omega, k _ _ ?_ (asc_app (asc_app (asc_cut hA _ _) asc_nil) (asc_cut hA _ _)) D4 mv4⟩
          rw [len_app, len_app, e0]; omega
end
end Sn

namespace Sn
open PySem PySem.Spec PyProof.Rows L2 TL
section
variable {K : PySem.W.Frag} {H : Hp} {p : Addr}
theorem no_non : NoStr K H .non := ⟨_, .base .non, kit_ty (by decide +kernel)⟩
theorem no_bl (b : Bool) : NoStr K H (.bl b) := ⟨_, .base (.bl b), kit_ty (by decide +kernel)⟩
theorem no_int (i : Int) : NoStr K H (.int i) := ⟨_, .base (.int i), kit_ty (by decide +kernel)⟩
theorem no_lst {xs : List V} (h : H p = some (.lst xs)) : NoStr K H (.ref p) := ⟨_, .base (.lst h), kit_ty (by decide +kernel)⟩
theorem no_tup {xs : List V} (h : H p = some (.tup xs)) : NoStr K H (.ref p) := ⟨_, .base (.tup h), kit_ty (by decide +kernel)⟩
theorem no_dK {kvs : List (Key × V)} (h : H p = some (.dK kvs)) : NoStr K H (.ref p) := ⟨_, .base (.dK h), kit_ty (by decide +kernel)⟩
end
theorem resv_asc : ∀ r ∈ resv, ∀ c ∈ tl r, c < 128 := by decide +kernel
section
variable {P : Program} {w : World} {K : PySem.W.Frag} {mg : Str → Option Value} {base : Heap}
/-- what is drawn: a text of plain signs, or no text -/
def spDrawn (K : PySem.W.Frag) : Sp := fun vs H Q _ => ∃ (d g c : Addr) (m : Nat), vs = [.ref d] ∧ Dr H d g c m ∧ m + 300 ≤ 1000000000 ∧
  ∀ (v : V) (H' : Hp), Arg2 K H' v → Dr H' d g c (m + 300) → Mv d g H H' → Q v H'
theorem ok_drawn (T : Txt K mg) : FnOk P w K mg base CX0 6 T.f_law_drawn T.fd_law_drawn ["_law_state"] (spDrawn K) := by
  have GT : FnOk P w K mg base CX0 2 T.f_law_take T.fd_law_take ["_law_state", "_law_size"] spTake := ok_take T
  have GP : FnOk P w K mg base CX0 3 T.f_law_pick T.fd_law_pick ["_law_state", "_law_some"] spPick := ok_pick T
  have GR : FnOk P w K mg base CX0 1 T.f_law_reserved T.fd_law_reserved [] spRes := ok_reserved T
  have GA : FnOk P w K mg base CX0 4 T.f_law_any_word T.fd_law_any_word ["_law_state", "_law_least", "_law_most"] spAnyW := ok_any_word T
  have GN : FnOk P w K mg base CX0 5 T.f_law_any_name T.fd_law_any_name ["_law_state"] spAnyN := ok_any_name T
  have GS : FnOk P w K mg base CX0 4 T.f_law_spoilt T.fd_law_spoilt ["_law_state", "_law_worth"] spSpoilt := ok_spoilt T
  refine T.F_law_drawn.ok sc_law_drawn (fun vs H Q E h => ?_) (fun cdv A outer s H vs Q E hr h => ?_)
  · obtain ⟨d, g, c, m, rfl, _⟩ := h
    rfl
  · obtain ⟨d, g, c, m, rfl, D, hm, k⟩ := h
    have hr1 := hr.mono (j := 1) (by decide)
    have hr2 := hr.mono (j := 2) (by decide)
    have hr3 := hr.mono (j := 3) (by decide)
    have hr4 := hr.mono (j := 4) (by decide)
    refine ⟨_, (pss_cons (ps_par (i := 1) (j := 2) (by rfl) sc_law_drawn.nd rfl rfl (by decide) rfl rfl (pa_cons (pe_call (ok_take T) (hr.mono (by decide)) rfl T.g_law_take T.F_law_take.kp T.b_law_take .nil pass0 (pa_cons (pv 0) (pa_cons pe_int pa_nil))) (pa_cons (pe_call (ok_take T) (hr.mono (by decide)) rfl T.g_law_take T.F_law_take.kp T.b_law_take .nil pass0 (pa_cons (pv 0) (pa_cons pe_int pa_nil))) pa_nil)) (by rfl))
      (pss_cons (ps_if (pt_cmpR op_eq (pv 1) pe_int (nomark _))
        (pss_cons (ps_set (i := 3) sc_law_drawn.nd rfl (Or.inl rfl) (pe_lst (pa_cons pe_non (pa_cons pe_bl (pa_cons pe_bl (pa_cons pe_int (pa_cons pe_int (pa_cons (pe_op op_pow pe_int pe_int) (pa_cons (pe_tup pa_nil) (pa_cons (pe_lst (pa_cons pe_str pa_nil)) (pa_cons (pe_tup (pa_cons pe_str pa_nil)) (pa_cons (pe_disp (pps_cons pe_str pe_int pps_nil) (by rfl) (by rfl) (fun z => by cases z) (by decide)) (pa_cons (pe_lst (pa_cons pe_str (pa_cons pe_str pa_nil))) (pa_cons (pe_lst pa_nil) (pa_cons pe_dnewK pa_nil)))))))))))))))
      (pss_one (ps_ret (pe_call (ok_pick T) (hr.mono (by decide)) rfl T.g_law_pick T.F_law_pick.kp T.b_law_pick .nil pass0 (pa_cons (pv 0) (pa_cons (pv 3) pa_nil))))))
        pss_nil)
      (C8.pss_cut (ps_if (pt_cmpR op_eq (pv 1) pe_int (nomark _))
        (pss_one (ps_set (i := 4) sc_law_drawn.nd rfl (Or.inl rfl) (pe_call (ok_any_word T) (hr.mono (by decide)) rfl T.g_law_any_word T.F_law_any_word.kp T.b_law_any_word .nil pass0 (pa_cons (pv 0) (pa_cons pe_int (pa_cons pe_int pa_nil))))))
        (pss_one (ps_if (pt_cmpR op_eq (pv 1) pe_int (nomark _))
        (pss_one (ps_set (i := 4) sc_law_drawn.nd rfl (Or.inl rfl) (pe_call (ok_pick T) (hr.mono (by decide)) rfl T.g_law_pick T.F_law_pick.kp T.b_law_pick .nil pass0 (pa_cons (pv 0) (pa_cons (pe_call0 (ok_reserved T) (hr.mono (by decide)) rfl T.g_law_reserved T.F_law_reserved.kp T.b_law_reserved .nil pass0) pa_nil)))))
        (pss_one (ps_if (pt_cmpR op_lt (pv 1) pe_int (nomark _))
        (pss_one (ps_set (i := 4) sc_law_drawn.nd rfl (Or.inl rfl) (pe_call (ok_any_name T) (hr.mono (by decide)) rfl T.g_law_any_name T.F_law_any_name.kp T.b_law_any_name .nil pass0 (pa_cons (pv 0) pa_nil))))
        (pss_cons (ps_set (i := 5) sc_law_drawn.nd rfl (Or.inl rfl) (pe_call (ok_pick T) (hr.mono (by decide)) rfl T.g_law_pick T.F_law_pick.kp T.b_law_pick .nil pass0 (pa_cons (pv 0) (pa_cons (pe_lst (pa_cons (pe_call (ok_any_name T) (hr.mono (by decide)) rfl T.g_law_any_name T.F_law_any_name.kp T.b_law_any_name .nil pass0 (pa_cons (pv 0) pa_nil)) (pa_cons (pe_call (ok_any_name T) (hr.mono (by decide)) rfl T.g_law_any_name T.F_law_any_name.kp T.b_law_any_name .nil pass0 (pa_cons (pv 0) pa_nil)) (pa_cons (pe_call (ok_pick T) (hr.mono (by decide)) rfl T.g_law_pick T.F_law_pick.kp T.b_law_pick .nil pass0 (pa_cons (pv 0) (pa_cons (pe_call0 (ok_reserved T) (hr.mono (by decide)) rfl T.g_law_reserved T.F_law_reserved.kp T.b_law_reserved .nil pass0) pa_nil))) pa_nil)))) pa_nil))))
      (pss_one (ps_set (i := 4) sc_law_drawn.nd rfl (Or.inl rfl) (pe_op op_add_str (pe_op op_add_str (pv 5) pe_str) (pe_call (ok_pick T) (hr.mono (by decide)) rfl T.g_law_pick T.F_law_pick.kp T.b_law_pick .nil pass0 (pa_cons (pv 0) (pa_cons (pe_lst (pa_cons (pe_call (ok_any_name T) (hr.mono (by decide)) rfl T.g_law_any_name T.F_law_any_name.kp T.b_law_any_name .nil pass0 (pa_cons (pv 0) pa_nil)) (pa_cons (pe_call (ok_pick T) (hr.mono (by decide)) rfl T.g_law_pick T.F_law_pick.kp T.b_law_pick .nil pass0 (pa_cons (pv 0) (pa_cons (pe_call0 (ok_reserved T) (hr.mono (by decide)) rfl T.g_law_reserved T.F_law_reserved.kp T.b_law_reserved .nil pass0) pa_nil))) pa_nil))) pa_nil))))))))))))
      (pss_cons (ps_for PassesOwn.never rfl (pi_range1 (by rfl) T.z_range (pa_cons (pv 2) pa_nil)) (pg_name (i := 6) sc_law_drawn.nd rfl (Or.inl rfl))
        (pss_one (ps_set (i := 4) sc_law_drawn.nd rfl (Or.inl rfl) (pe_call (ok_spoilt T) (hr.mono (by decide)) rfl T.g_law_spoilt T.F_law_spoilt.kp T.b_law_spoilt .nil pass0 (pa_cons (pv 0) (pa_cons (pv 4) pa_nil))))))
      (pss_one (ps_ret (pv 4))))))), ?_⟩
    refine ⟨_, rfl, d, g, c, m, _, rfl, D, by omega, by decide, by decide, fun r H1 r0 r1 D1 mv1 => ?_⟩
    refine ⟨_, rfl, d, g, c, _, _, rfl, D1, by omega, by decide, by decide, fun b H2 b0 b1 D2 mv2 => ?_⟩
    refine ⟨_, _, rfl, ?_⟩
    have mv02 : Mv d g H H2 := mv1.trans mv2
    refine ⟨_, rfl, rfl, _, rfl, ite2 (fun _ => ?_) (fun _ => ?_)⟩
    · -- a value of another kind
      refine ⟨_, _, rfl, rfl, ⟨by decide, by decide, by decide⟩, (by show 0 ≤ sizeLine; decide), fun p1 h1 => ?_⟩
      refine ⟨(by show 1 ≤ sizeLine; decide), fun p2 h2 => ⟨(by show 1 ≤ sizeLine; decide), fun p3 h3 => fun p4 h4 => ?_⟩⟩
      refine ⟨upd_same, [(Sum.inr "a", .int 1)], rfl, by decide, (by show 2 ≤ sizeLine; decide), fun p5 h5 => ⟨(by show 0 ≤ sizeLine; decide), fun p6 h6 p7 h7 => ?_⟩⟩
      refine ⟨(by show 13 ≤ sizeLine; decide), fun p hp => ?_⟩
      have s1 := same_new (o := .tup []) h1
      have s2 := same_new (o := .lst [.str "a"]) h2
      have s3 := same_new (o := .tup [.str "a"]) h3
      have s4 := same_new (o := .dK []) h4
      have s4b : Same (upd (upd (upd H2 p1 (.tup [])) p2 (.lst [.str "a"])) p3 (.tup [.str "a"])) (upd (upd (upd (upd (upd H2 p1 (.tup [])) p2 (.lst [.str "a"])) p3 (.tup [.str "a"])) p4 (.dK [])) p4 (.dK (mergeK [] [(Sum.inr "a", .int 1)]))) := by
        rw [upd_upd]
        exact same_new h4
      have s5 := same_new (o := .lst [.str "a", .str "b"]) h5
      have s6 := same_new (o := .lst []) h6
      have s7 := same_new (o := .dK []) h7
      have s8 := same_new (o := .lst [.non, .bl true, .bl false, .int 0, .int 7, .int (10 ^ 20), .ref p1, .ref p2, .ref p3, .ref p4, .ref p5, .ref p6, .ref p7]) hp
      have S3 := (s1.trans s2).trans s3
      have S := ((((S3.trans s4b).trans s5).trans s6).trans s7).trans s8
      have e1 := s8 _ _ (s7 _ _ (s6 _ _ (s5 _ _ (s4b _ _ (s3 _ _ (s2 _ _ (upd_same (H := H2) (a := p1) (o := .tup []))))))))
      have e2 := s8 _ _ (s7 _ _ (s6 _ _ (s5 _ _ (s4b _ _ (s3 _ _ (upd_same (H := upd H2 p1 (.tup [])) (a := p2) (o := .lst [.str "a"])))))))
      have e3 := s8 _ _ (s7 _ _ (s6 _ _ (s5 _ _ (s4b _ _ (upd_same (H := upd (upd H2 p1 (.tup [])) p2 (.lst [.str "a"])) (a := p3) (o := .tup [.str "a"]))))))
      have e4 := s8 _ _ (s7 _ _ (s6 _ _ (s5 p4 _ upd_same)))
      have e5 := s8 _ _ (s7 _ _ (s6 p5 _ upd_same))
      have e6 := s8 _ _ (s7 p6 _ upd_same)
      have e7 := s8 p7 _ upd_same
      have D3 := D2.same S
      have off : ∀ q : Addr, H2 q = none → q ≠ d ∧ q ≠ g := fun q hq => ⟨(dr_new D2 hq).1, (dr_new D2 hq).2.1⟩
      have n1 := off p1 h1
      have n2 := off p2 (s1.free h2)
      have n3 := off p3 ((s1.trans s2).free h3)
      have n4 := off p4 (S3.free h4)
      have n5 := off p5 ((S3.trans s4b).free h5)
      have n6 := off p6 (((S3.trans s4b).trans s5).free h6)
      have n7 := off p7 ((((S3.trans s4b).trans s5).trans s6).free h7)
      have n8 := off p (((((S3.trans s4b).trans s5).trans s6).trans s7).free hp)
      refine ⟨_, rfl, _, rfl, d, g, c, _, D3, by omega, .inr ⟨p, _, rfl, upd_same, n8.2, (by show 0 < 13; decide), (by show 13 ≤ 1000; decide), fun x H' hx D' mv' => ?_⟩⟩
      refine k x H' (.inr ?_) (D'.mono (by omega)) ((mv02.trans (Mv.same S)).trans mv')
      simp only [List.mem_cons, List.not_mem_nil, or_false] at hx
      rcases hx with rfl | rfl | rfl | rfl | rfl | rfl | rfl | rfl | rfl | rfl | rfl | rfl | rfl
      · exact no_non
      · exact no_bl _
      · exact no_bl _
      · exact no_int _
      · exact no_int _
      · exact no_int _
      · exact no_tup (mv' _ _ n1.1 n1.2 e1)
      · exact no_lst (mv' _ _ n2.1 n2.2 e2)
      · exact no_tup (mv' _ _ n3.1 n3.2 e3)
      · exact no_dK (mv' _ _ n4.1 n4.2 e4)
      · exact no_lst (mv' _ _ n5.1 n5.2 e5)
      · exact no_lst (mv' _ _ n6.1 n6.2 e6)
      · exact no_dK (mv' _ _ n7.1 n7.2 e7)
    · -- a text
      refine ⟨fun σ H4 => ∃ (z : Str) (v3 v5 v6 : Option V), z.length ≤ 20 ∧ Asc z ∧ σ = [some (.ref d), some (.int r), some (.int b), v3, some (.str z), v5, v6] ∧ Dr H4 d g c (m + 250) ∧ Mv d g H H4, ?_, ?_⟩
      · refine ⟨_, rfl, rfl, _, rfl, ite2 (fun _ => ?_) (fun _ => ?_)⟩
        · refine ⟨_, rfl, d, g, c, _, 0, 9, rfl, D2, by omega, by omega, by omega, fun z H3 _ hz hs D3 mv3 => ?_⟩
          exact ⟨z, _, _, _, by omega, fun x hx => sgn_asc x (hs x hx), rfl, D3.mono (by omega), mv02.trans mv3⟩
        · refine ⟨_, rfl, rfl, _, rfl, ite2 (fun _ => ?_) (fun _ => ?_)⟩
          · refine ⟨_, rfl, rfl, fun p hp => ?_⟩
            refine ⟨d, g, c, _, D2.same (same_new hp), by omega, .inr ⟨p, _, rfl, upd_same, (dr_new D2 hp).2.1, by decide +kernel, by decide +kernel, fun y H3 hy D3 mv3 => ?_⟩⟩
            obtain ⟨y, hy2, rfl⟩ := List.mem_map.mp hy
            have := resv_len y hy2
            exact ⟨y, _, _, _, by omega, resv_asc y hy2, rfl, D3.mono (by omega), (mv02.trans (Mv.same (same_new hp))).trans mv3⟩
          · refine ⟨_, rfl, _, _, rfl, rfl, _, rfl, ite2 (fun _ => ?_) (fun _ => ?_)⟩
            · refine ⟨_, rfl, d, g, c, _, rfl, D2, by omega, fun z H3 hz D3 mv3 => ?_⟩
              have := isN_len hz
              exact ⟨z, _, _, _, by omega, asc_name hz, rfl, D3.mono (by omega), mv02.trans mv3⟩
            · -- a path
              refine ⟨_, rfl, _, rfl, d, g, c, _, rfl, D2, by omega, fun z1 H3 hz1 D3 mv3 => ?_⟩
              refine ⟨_, rfl, d, g, c, _, rfl, D3, by omega, fun z2 H4 hz2 D4 mv4 => ?_⟩
              refine ⟨_, rfl, rfl, fun p hp => ?_⟩
              refine ⟨d, g, c, _, D4.same (same_new hp), by omega, .inr ⟨p, _, rfl, upd_same, (dr_new D4 hp).2.1, by decide +kernel, by decide +kernel, fun y H5 hy D5 mv5 => ?_⟩⟩
              obtain ⟨y, hy2, rfl⟩ := List.mem_map.mp hy
              refine ⟨(by show 3 ≤ sizeLine; decide), fun q hq => ?_⟩
              refine ⟨d, g, c, _, D5.same (same_new hq), by omega, .inr ⟨q, _, rfl, upd_same, (dr_new D5 hq).2.1, (by show 0 < 3; decide), (by show 3 ≤ 1000; decide), fun x H6 hx D6 mv6 => ?_⟩⟩
              have M6 : Mv d g H H6 := (((((mv02.trans mv3).trans mv4).trans (Mv.same (same_new hp))).trans mv5).trans (Mv.same (same_new hq))).trans mv6
              obtain ⟨x, rfl, hx8, hxA⟩ : ∃ z : Str, x = .str z ∧ z.length ≤ 8 ∧ Asc z := by
                simp only [List.mem_cons, List.not_mem_nil, or_false] at hx
                have := resv_len y hy2
                rcases hx with rfl | rfl | rfl
                · exact ⟨_, rfl, isN_len hz1, asc_name hz1⟩
                · exact ⟨_, rfl, isN_len hz2, asc_name hz2⟩
                · exact ⟨_, rfl, by omega, resv_asc y hy2⟩
              have ed : ("." : Str).length = 1 := by decide +kernel
              refine ⟨_, rfl, _, _, rfl, rfl, by rw [sizeLine_eq, ed]; omega, ?_⟩
              refine ⟨_, rfl, _, rfl, d, g, c, _, rfl, D6, by omega, fun z3 H7 hz3 D7 mv7 => ?_⟩
              refine ⟨_, rfl, rfl, fun u hu => ?_⟩
              refine ⟨d, g, c, _, D7.same (same_new hu), by omega, .inr ⟨u, _, rfl, upd_same, (dr_new D7 hu).2.1, by decide +kernel, by decide +kernel, fun v H8 hv D8 mv8 => ?_⟩⟩
              obtain ⟨v, hv2, rfl⟩ := List.mem_map.mp hv
              refine ⟨(by show 2 ≤ sizeLine; decide), fun t ht => ?_⟩
              refine ⟨d, g, c, _, D8.same (same_new ht), by omega, .inr ⟨t, _, rfl, upd_same, (dr_new D8 ht).2.1, (by show 0 < 2; decide), (by show 2 ≤ 1000; decide), fun o H9 ho D9 mv9 => ?_⟩⟩
              have M9 : Mv d g H H9 := ((((M6.trans mv7).trans (Mv.same (same_new hu))).trans mv8).trans (Mv.same (same_new ht))).trans mv9
              obtain ⟨o, rfl, ho8, hoA⟩ : ∃ z : Str, o = .str z ∧ z.length ≤ 8 ∧ Asc z := by
                simp only [List.mem_cons, List.not_mem_nil, or_false] at ho
                have := resv_len v hv2
                rcases ho with rfl | rfl
                · exact ⟨_, rfl, isN_len hz3, asc_name hz3⟩
                · exact ⟨_, rfl, by omega, resv_asc v hv2⟩
              have hl : ((x ++ ".") ++ o).length ≤ 17 := by rw [len_app, len_app, ed]; omega
              refine ⟨_, _, rfl, rfl, by rw [sizeLine_eq, len_app, ed]; omega, ?_⟩
              exact ⟨(x ++ ".") ++ o, _, _, _, by omega, asc_app (asc_app hxA (by unfold Asc; decide +kernel)) hoA, rfl, D9.mono (by omega), M9⟩
      · rintro σ H4 ⟨z, v3, v5, v6, hz, hA, rfl, D4, M4⟩
        refine ⟨_, rfl, b, rfl, by omega, by omega, ?_⟩
        have hb : b.toNat ≤ 2 := by omega
        refine for_range (lo := 0) (n := b.toNat) (fun i σ H5 => ∃ (z : Str) (v6 : Option V), z.length ≤ 20 + i ∧ Asc z ∧ σ = [some (.ref d), some (.int r), some (.int b), v3, some (.str z), v5, v6] ∧ Dr H5 d g c (m + 250 + 10 * i) ∧ Mv d g H H5)
          ⟨z, v6, by omega, hA, rfl, D4, M4⟩ ?_ ?_
        · rintro i σ H5 hi ⟨z, v6, hz, hA, rfl, D5, M5⟩
          refine ⟨_, rfl, _, rfl, d, g, c, _, z, rfl, D5, by omega, by omega, hA, fun y H6 hy hyA D6 mv6 => ?_⟩
          exact ⟨y, _, by omega, hyA, rfl, D6.mono (by omega), M5.trans mv6⟩
        · rintro σ H5 ⟨z, v6, hz, hA, rfl, D5, M5⟩
          exact ⟨_, rfl, k _ _ (.inl ⟨z, rfl, by omega, hA⟩) (D5.mono (by omega)) M5⟩
end
end Sn

namespace Sn
open PySem PySem.Spec PyProof.Rows L2 TL
theorem shown3 : ∀ b1 b2 b3 : Bool, (PyData.list [.bool b1, .bool b2, .bool b3]).shown.length ≤ sizeLine := by
  intro b1 b2 b3
  cases b1 <;> cases b2 <;> cases b3 <;> decide +kernel
section
variable {P : Program} {w : World} {K : PySem.W.Frag} {mg : Str → Option Value} {base : Heap}
def g1 (us ws : List Value) : List Value := us ++ ws
def gV1 (us ws : List V) : List V := us ++ ws
theorem kb_is_word_value (T : Txt K mg) : KBinds K T.fd_is_word ["value"] ["value"] g1 gV1 := by
  obtain ⟨oc, od, kV, dc, pm, an, cd, ct, sl, e, lk, hcd⟩ := T.F_is_word.ex
  rw [e]
  exact ⟨fun s us ws _ hl => match us, ws, hl with | [], [_], _ => .of_eq rfl | [_], [], _ => .of_eq rfl, fun a b => a.append b⟩
theorem kb_is_name_value (T : Txt K mg) : KBinds K T.fd_is_name ["value"] ["value"] g1 gV1 := by
  obtain ⟨oc, od, kV, dc, pm, an, cd, ct, sl, e, lk, hcd⟩ := T.F_is_name.ex
  rw [e]
  exact ⟨fun s us ws _ hl => match us, ws, hl with | [], [_], _ => .of_eq rfl | [_], [], _ => .of_eq rfl, fun a b => a.append b⟩
theorem kb_is_path_value (T : Txt K mg) : KBinds K T.fd_is_path ["value"] ["value"] g1 gV1 := by
  obtain ⟨oc, od, kV, dc, pm, an, cd, ct, sl, e, lk, hcd⟩ := T.F_is_path.ex
  rw [e]
  exact ⟨fun s us ws _ hl => match us, ws, hl with | [], [_], _ => .of_eq rfl | [_], [], _ => .of_eq rfl, fun a b => a.append b⟩
/-- the law: a list of at most 63 ints is handed in, True comes out -/
def spLaw (K : PySem.W.Frag) : Sp := fun vs H Q _ => ∃ (a : Addr) (ns : List Int), vs = [.ref a] ∧ SqL K H a (ns.map V.int) ∧ ns.length ≤ 63 ∧ ∀ H', Q (.bl true) H'
theorem ok_law (T : Txt K mg) : FnG P w K mg base CX0 7 T.f_law T.fd_law ["_law_script"] (spLaw K) := by
  refine okG T.F_law sc_law (fun vs H Q E h => ?_) (fun cdv A outer s H vs Q E hgu hr h => ?_)
  · obtain ⟨a, ns, rfl, _⟩ := h
    rfl
  · obtain ⟨a, ns, rfl, hS, hl, k⟩ := h
    refine ⟨_, (pss_cons (ps_set (i := 1) sc_law.nd rfl (Or.inl rfl) (pe_call (ok_begun T) (hr.mono (by decide)) rfl T.g_law_begun T.F_law_begun.kp T.b_law_begun .nil pass0 (pa_cons (pv 0) pa_nil)))
      (pss_cons (ps_for PassesOwn.never rfl (pi_range1 (by rfl) T.z_range (pa_cons (pe_op op_add pe_int (pe_callB (call_min2 rfl) (by rfl) T.z_min (by decide +kernel) (pa_cons (pe_callB call_len (by rfl) T.z_len (by decide +kernel) (pa_cons (pv 0) pa_nil)) (pa_cons pe_int pa_nil)))) pa_nil)) (pg_name (i := 2) sc_law.nd rfl (Or.inl rfl))
        (pss_cons (ps_set (i := 3) sc_law.nd rfl (Or.inl rfl) (pe_call (ok_drawn T) (hr.mono (by decide)) rfl T.g_law_drawn T.F_law_drawn.kp T.b_law_drawn .nil pass0 (pa_cons (pv 1) pa_nil)))
      (pss_cons (ps_set (i := 4) sc_law.nd rfl (Or.inl rfl) (pe_lst (pa_cons (pe_call (ok_lword T) (hr.mono (by decide)) rfl T.g_law_is_word T.F_law_is_word.kp T.b_law_is_word .nil pass0 (pa_cons (pv 3) pa_nil)) (pa_cons (pe_call (ok_lname T) (hr.mono (by decide)) rfl T.g_law_is_name T.F_law_is_name.kp T.b_law_is_name .nil pass0 (pa_cons (pv 3) pa_nil)) (pa_cons (pe_call (ok_lpath T) (hr.mono (by decide)) rfl T.g_law_is_path T.F_law_is_path.kp T.b_law_is_path .nil pass0 (pa_cons (pv 3) pa_nil)) pa_nil)))))
      (pss_cons (ps_if (pt_cmpR op_ne (pe_callB (call_repr hgu (hu70 hr)) (by rfl) T.z_repr (by decide +kernel) (pa_cons (pe_lst (pa_cons (pe_call (ok_word T) (hr.mono (by decide)) rfl T.g_is_word T.F_is_word.kp T.b_is_word .nil pass0 (pa_cons (pv 3) pa_nil)) (pa_cons (pe_call (ok_name T) (hr.mono (by decide)) rfl T.g_is_name T.F_is_name.kp T.b_is_name .nil pass0 (pa_cons (pv 3) pa_nil)) (pa_cons (pe_call (ok_path T) (hr.mono (by decide)) rfl T.g_is_path T.F_is_path.kp T.b_is_path .nil pass0 (pa_cons (pv 3) pa_nil)) pa_nil)))) pa_nil)) (pe_callB (call_repr hgu (hu70 hr)) (by rfl) T.z_repr (by decide +kernel) (pa_cons (pv 4) pa_nil)) (nomark _))
        (pss_one (ps_ret pe_bl))
        pss_nil)
      (pss_one (ps_if (pt_cmpR op_ne (pe_callB (call_repr hgu (hu70 hr)) (by rfl) T.z_repr (by decide +kernel) (pa_cons (pe_lst (pa_cons (pe_callK0 (ok_word T) (hr.mono (by decide)) rfl T.g_is_word T.F_is_word.kp (kb_is_word_value T) pass0 (pk_cons (pv 3) pk_nil)) (pa_cons (pe_callK0 (ok_name T) (hr.mono (by decide)) rfl T.g_is_name T.F_is_name.kp (kb_is_name_value T) pass0 (pk_cons (pv 3) pk_nil)) (pa_cons (pe_callK0 (ok_path T) (hr.mono (by decide)) rfl T.g_is_path T.F_is_path.kp (kb_is_path_value T) pass0 (pk_cons (pv 3) pk_nil)) pa_nil)))) pa_nil)) (pe_callB (call_repr hgu (hu70 hr)) (by rfl) T.z_repr (by decide +kernel) (pa_cons (pv 4) pa_nil)) (nomark _))
        (pss_one (ps_ret pe_bl))
        pss_nil))))))
      (pss_one (ps_ret pe_bl)))), ?_⟩
    refine ⟨_, rfl, a, ns, rfl, hS, by omega, fun d g c H1 nd ng nc D1 s1 => ?_⟩
    refine ⟨_, rfl, _, ns.length, rfl, .inl ⟨_, s1.seq hS, by rw [List.length_map]⟩, _, _, rfl, _, _, rfl, rfl, _, rfl, ?_⟩
    have e0 : (if (63 : Int) < (ns.length : Int) then (63 : Int) else (ns.length : Int)) = (ns.length : Int) := if_neg (by omega)
    show -(2 ^ 62) ≤ (20 : Int) + _ ∧ _
    rw [e0]
    refine ⟨by omega, by omega, ?_⟩
    refine for_range (lo := 0) (n := (20 + (ns.length : Int)).toNat) (fun i σ H2 => ∃ (v2 v3 v4 : Option V), σ = [some (.ref a), some (.ref d), v2, v3, v4] ∧ Dr H2 d g c (300 * i)) ⟨none, none, none, rfl, D1⟩ ?_ ?_
    · rintro i σ H2 hi ⟨v2, v3, v4, rfl, D2⟩
      refine ⟨_, rfl, d, g, c, _, rfl, D2, by omega, fun v H3 hA D3 mv3 => ?_⟩
      -- due
      refine ⟨_, rfl, v, rfl, hA, fun H4 s4 => ?_⟩
      have hA4 := hA.same s4
      refine ⟨_, rfl, v, rfl, hA4, fun H5 s5 => ?_⟩
      have hA5 := hA4.same s5
      refine ⟨_, rfl, v, rfl, hA5, fun H6 s6 => ⟨(by show 3 ≤ sizeLine; decide), fun p hp => ?_⟩⟩
      have hA6 := hA5.same s6
      have s7 := same_new (o := .lst [.bl (ans isW v), .bl (ans isN v), .bl (ans isP v)]) hp
      have dpL : ∀ {H : Hp} {q : Addr}, H q = some (.lst [.bl (ans isW v), .bl (ans isN v), .bl (ans isP v)]) → Dp K H (.ref q) (.list [.bool (ans isW v), .bool (ans isN v), .bool (ans isP v)]) :=
        fun h => .lst (.inl (.inl h)) (.cons (.bl _) (.cons (.bl _) (.cons (.bl _) .nil)))
      have hz := shown3 (ans isW v) (ans isN v) (ans isP v)
      have dz : (PyData.list [.bool (ans isW v), .bool (ans isN v), .bool (ans isP v)]).depth ≤ 64 := by simp [PyData.depth, PyData.depthAll]
      -- the program's, by position
      have hA7 := (hA6.same s7).arg
      refine ⟨_, rfl, v, rfl, hA7, fun H8 s8 => ?_⟩
      refine ⟨_, rfl, v, rfl, hA7.same s8, fun H9 s9 => ?_⟩
      refine ⟨_, rfl, v, rfl, (hA7.same s8).same s9, fun H10 s10 => ⟨(by show 3 ≤ sizeLine; decide), fun q hq => ?_⟩⟩
      have s11 := same_new (o := .lst [.bl (ans isW v), .bl (ans isN v), .bl (ans isP v)]) hq
      have S := ((s8.trans s9).trans s10).trans s11
      have hp2 := S p _ upd_same
      refine ⟨q, _, rfl, dpL upd_same, rfl, rfl, dz, hz, ?_⟩
      refine ⟨_, rfl, p, _, rfl, dpL hp2, rfl, rfl, dz, hz, rfl, _, rfl, iteNS rfl ?_⟩
      -- and by name
      have hA11 := hA7.same S
      refine ⟨_, rfl, v, rfl, hA11, fun H12 s12 => ?_⟩
      refine ⟨_, rfl, v, rfl, hA11.same s12, fun H13 s13 => ?_⟩
      refine ⟨_, rfl, v, rfl, (hA11.same s12).same s13, fun H14 s14 => ⟨(by show 3 ≤ sizeLine; decide), fun u hu => ?_⟩⟩
      have s15 := same_new (o := .lst [.bl (ans isW v), .bl (ans isN v), .bl (ans isP v)]) hu
      have S2 := ((s12.trans s13).trans s14).trans s15
      refine ⟨u, _, rfl, dpL upd_same, rfl, rfl, dz, hz, ?_⟩
      refine ⟨_, rfl, p, _, rfl, dpL (S2 p _ hp2), rfl, rfl, dz, hz, rfl, _, rfl, iteNS rfl ?_⟩
      refine ⟨_, _, _, rfl, ?_⟩
      exact (D3.same (((((s4.trans s5).trans s6).trans s7).trans S).trans S2)).mono (by omega)
    · rintro σ H2 ⟨v2, v3, v4, rfl, D2⟩
      exact k H2
end
end Sn

namespace Sn
open PySem PySem.Spec PyProof.Rows L2
theorem all_mk {l : PySem.W.OpenLaw} {w : World} {K : PySem.W.Frag} {h : Heap} {mg : Str → Option Value} {fa : Addr}
    {f_is_word : Addr} {od_is_word an_is_word : Option Addr} {sl_is_word : Array (Option Value)} {oc_is_word kV_is_word dc_is_word pm_is_word cd_is_word ct_is_word : Value}
    {f_is_name : Addr} {od_is_name an_is_name : Option Addr} {sl_is_name : Array (Option Value)} {oc_is_name kV_is_name dc_is_name pm_is_name cd_is_name ct_is_name : Value}
    {f_is_path : Addr} {od_is_path an_is_path : Option Addr} {sl_is_path : Array (Option Value)} {oc_is_path kV_is_path dc_is_path pm_is_path cd_is_path ct_is_path : Value}
    {f_law_begun : Addr} {od_law_begun an_law_begun : Option Addr} {sl_law_begun : Array (Option Value)} {oc_law_begun kV_law_begun dc_law_begun pm_law_begun cd_law_begun ct_law_begun : Value}
    {f_law_mixed : Addr} {od_law_mixed an_law_mixed : Option Addr} {sl_law_mixed : Array (Option Value)} {oc_law_mixed kV_law_mixed dc_law_mixed pm_law_mixed cd_law_mixed ct_law_mixed : Value}
    {f_law_take : Addr} {od_law_take an_law_take : Option Addr} {sl_law_take : Array (Option Value)} {oc_law_take kV_law_take dc_law_take pm_law_take cd_law_take ct_law_take : Value}
    {f_law_pick : Addr} {od_law_pick an_law_pick : Option Addr} {sl_law_pick : Array (Option Value)} {oc_law_pick kV_law_pick dc_law_pick pm_law_pick cd_law_pick ct_law_pick : Value}
    {f_law_reserved : Addr} {od_law_reserved an_law_reserved : Option Addr} {sl_law_reserved : Array (Option Value)} {oc_law_reserved kV_law_reserved dc_law_reserved pm_law_reserved cd_law_reserved ct_law_reserved : Value}
    {f_law_any_word : Addr} {od_law_any_word an_law_any_word : Option Addr} {sl_law_any_word : Array (Option Value)} {oc_law_any_word kV_law_any_word dc_law_any_word pm_law_any_word cd_law_any_word ct_law_any_word : Value}
    {f_law_any_name : Addr} {od_law_any_name an_law_any_name : Option Addr} {sl_law_any_name : Array (Option Value)} {oc_law_any_name kV_law_any_name dc_law_any_name pm_law_any_name cd_law_any_name ct_law_any_name : Value}
    {f_law_is_word : Addr} {od_law_is_word an_law_is_word : Option Addr} {sl_law_is_word : Array (Option Value)} {oc_law_is_word kV_law_is_word dc_law_is_word pm_law_is_word cd_law_is_word ct_law_is_word : Value}
    {f_law_is_name : Addr} {od_law_is_name an_law_is_name : Option Addr} {sl_law_is_name : Array (Option Value)} {oc_law_is_name kV_law_is_name dc_law_is_name pm_law_is_name cd_law_is_name ct_law_is_name : Value}
    {f_law_is_path : Addr} {od_law_is_path an_law_is_path : Option Addr} {sl_law_is_path : Array (Option Value)} {oc_law_is_path kV_law_is_path dc_law_is_path pm_law_is_path cd_law_is_path ct_law_is_path : Value}
    {f_law_spoilt : Addr} {od_law_spoilt an_law_spoilt : Option Addr} {sl_law_spoilt : Array (Option Value)} {oc_law_spoilt kV_law_spoilt dc_law_spoilt pm_law_spoilt cd_law_spoilt ct_law_spoilt : Value}
    {f_law_drawn : Addr} {od_law_drawn an_law_drawn : Option Addr} {sl_law_drawn : Array (Option Value)} {oc_law_drawn kV_law_drawn dc_law_drawn pm_law_drawn cd_law_drawn ct_law_drawn : Value}
    {f_law : Addr} {od_law an_law : Option Addr} {sl_law : Array (Option Value)} {oc_law kV_law dc_law pm_law cd_law ct_law : Value}
    {t_LETTERS : Tok}
    {t_SIGNS : Tok}
    {t_MOST_SIGNS : Tok}
    {a_RESERVED : Addr} {od_RESERVED : Option Addr} {us_RESERVED : List Value} {nn_RESERVED : Nat} {sl_RESERVED : Array (Option Value)}
    (X : K.In h) (G : h.Ns mainGlobals mg) (hfa : mg "law" = some (.ref fa))
    (a_is_word : PySem.W.nsIn K mainGlobals "is_word" = some (some (.ref f_is_word)))
    (l_is_word : K.lookup f_is_word = some ⟨oc_is_word, od_is_word, .func (PySem.W.fnOf "is_word" "is_word" (defArgs s_is_word) (defBody s_is_word) (defScope s_is_word) .none kV_is_word dc_is_word pm_is_word an_is_word cd_is_word ct_is_word), sl_is_word⟩)
    (c_is_word : PySem.W.codeIn K cd_is_word "is_word" = true)
    (k_is_word : PySem.W.keepIn K (.ref f_is_word) = true)
    (a_is_name : PySem.W.nsIn K mainGlobals "is_name" = some (some (.ref f_is_name)))
    (l_is_name : K.lookup f_is_name = some ⟨oc_is_name, od_is_name, .func (PySem.W.fnOf "is_name" "is_name" (defArgs s_is_name) (defBody s_is_name) (defScope s_is_name) .none kV_is_name dc_is_name pm_is_name an_is_name cd_is_name ct_is_name), sl_is_name⟩)
    (c_is_name : PySem.W.codeIn K cd_is_name "is_name" = true)
    (k_is_name : PySem.W.keepIn K (.ref f_is_name) = true)
    (a_is_path : PySem.W.nsIn K mainGlobals "is_path" = some (some (.ref f_is_path)))
    (l_is_path : K.lookup f_is_path = some ⟨oc_is_path, od_is_path, .func (PySem.W.fnOf "is_path" "is_path" (defArgs s_is_path) (defBody s_is_path) (defScope s_is_path) .none kV_is_path dc_is_path pm_is_path an_is_path cd_is_path ct_is_path), sl_is_path⟩)
    (c_is_path : PySem.W.codeIn K cd_is_path "is_path" = true)
    (k_is_path : PySem.W.keepIn K (.ref f_is_path) = true)
    (a_law_begun : PySem.W.nsIn K mainGlobals "_law_begun" = some (some (.ref f_law_begun)))
    (l_law_begun : K.lookup f_law_begun = some ⟨oc_law_begun, od_law_begun, .func (PySem.W.fnOf "_law_begun" "_law_begun" (defArgs s_law_begun) (defBody s_law_begun) (defScope s_law_begun) .none kV_law_begun dc_law_begun pm_law_begun an_law_begun cd_law_begun ct_law_begun), sl_law_begun⟩)
    (c_law_begun : PySem.W.codeIn K cd_law_begun "_law_begun" = true)
    (k_law_begun : PySem.W.keepIn K (.ref f_law_begun) = true)
    (a_law_mixed : PySem.W.nsIn K mainGlobals "_law_mixed" = some (some (.ref f_law_mixed)))
    (l_law_mixed : K.lookup f_law_mixed = some ⟨oc_law_mixed, od_law_mixed, .func (PySem.W.fnOf "_law_mixed" "_law_mixed" (defArgs s_law_mixed) (defBody s_law_mixed) (defScope s_law_mixed) .none kV_law_mixed dc_law_mixed pm_law_mixed an_law_mixed cd_law_mixed ct_law_mixed), sl_law_mixed⟩)
    (c_law_mixed : PySem.W.codeIn K cd_law_mixed "_law_mixed" = true)
    (k_law_mixed : PySem.W.keepIn K (.ref f_law_mixed) = true)
    (a_law_take : PySem.W.nsIn K mainGlobals "_law_take" = some (some (.ref f_law_take)))
    (l_law_take : K.lookup f_law_take = some ⟨oc_law_take, od_law_take, .func (PySem.W.fnOf "_law_take" "_law_take" (defArgs s_law_take) (defBody s_law_take) (defScope s_law_take) .none kV_law_take dc_law_take pm_law_take an_law_take cd_law_take ct_law_take), sl_law_take⟩)
    (c_law_take : PySem.W.codeIn K cd_law_take "_law_take" = true)
    (k_law_take : PySem.W.keepIn K (.ref f_law_take) = true)
    (a_law_pick : PySem.W.nsIn K mainGlobals "_law_pick" = some (some (.ref f_law_pick)))
    (l_law_pick : K.lookup f_law_pick = some ⟨oc_law_pick, od_law_pick, .func (PySem.W.fnOf "_law_pick" "_law_pick" (defArgs s_law_pick) (defBody s_law_pick) (defScope s_law_pick) .none kV_law_pick dc_law_pick pm_law_pick an_law_pick cd_law_pick ct_law_pick), sl_law_pick⟩)
    (c_law_pick : PySem.W.codeIn K cd_law_pick "_law_pick" = true)
    (k_law_pick : PySem.W.keepIn K (.ref f_law_pick) = true)
    (a_law_reserved : PySem.W.nsIn K mainGlobals "_law_reserved" = some (some (.ref f_law_reserved)))
    (l_law_reserved : K.lookup f_law_reserved = some ⟨oc_law_reserved, od_law_reserved, .func (PySem.W.fnOf "_law_reserved" "_law_reserved" (defArgs s_law_reserved) (defBody s_law_reserved) (defScope s_law_reserved) .none kV_law_reserved dc_law_reserved pm_law_reserved an_law_reserved cd_law_reserved ct_law_reserved), sl_law_reserved⟩)
    (c_law_reserved : PySem.W.codeIn K cd_law_reserved "_law_reserved" = true)
    (k_law_reserved : PySem.W.keepIn K (.ref f_law_reserved) = true)
    (a_law_any_word : PySem.W.nsIn K mainGlobals "_law_any_word" = some (some (.ref f_law_any_word)))
    (l_law_any_word : K.lookup f_law_any_word = some ⟨oc_law_any_word, od_law_any_word, .func (PySem.W.fnOf "_law_any_word" "_law_any_word" (defArgs s_law_any_word) (defBody s_law_any_word) (defScope s_law_any_word) .none kV_law_any_word dc_law_any_word pm_law_any_word an_law_any_word cd_law_any_word ct_law_any_word), sl_law_any_word⟩)
    (c_law_any_word : PySem.W.codeIn K cd_law_any_word "_law_any_word" = true)
    (k_law_any_word : PySem.W.keepIn K (.ref f_law_any_word) = true)
    (a_law_any_name : PySem.W.nsIn K mainGlobals "_law_any_name" = some (some (.ref f_law_any_name)))
    (l_law_any_name : K.lookup f_law_any_name = some ⟨oc_law_any_name, od_law_any_name, .func (PySem.W.fnOf "_law_any_name" "_law_any_name" (defArgs s_law_any_name) (defBody s_law_any_name) (defScope s_law_any_name) .none kV_law_any_name dc_law_any_name pm_law_any_name an_law_any_name cd_law_any_name ct_law_any_name), sl_law_any_name⟩)
    (c_law_any_name : PySem.W.codeIn K cd_law_any_name "_law_any_name" = true)
    (k_law_any_name : PySem.W.keepIn K (.ref f_law_any_name) = true)
    (a_law_is_word : PySem.W.nsIn K mainGlobals "_law_is_word" = some (some (.ref f_law_is_word)))
    (l_law_is_word : K.lookup f_law_is_word = some ⟨oc_law_is_word, od_law_is_word, .func (PySem.W.fnOf "_law_is_word" "_law_is_word" (defArgs s_law_is_word) (defBody s_law_is_word) (defScope s_law_is_word) .none kV_law_is_word dc_law_is_word pm_law_is_word an_law_is_word cd_law_is_word ct_law_is_word), sl_law_is_word⟩)
    (c_law_is_word : PySem.W.codeIn K cd_law_is_word "_law_is_word" = true)
    (k_law_is_word : PySem.W.keepIn K (.ref f_law_is_word) = true)
    (a_law_is_name : PySem.W.nsIn K mainGlobals "_law_is_name" = some (some (.ref f_law_is_name)))
    (l_law_is_name : K.lookup f_law_is_name = some ⟨oc_law_is_name, od_law_is_name, .func (PySem.W.fnOf "_law_is_name" "_law_is_name" (defArgs s_law_is_name) (defBody s_law_is_name) (defScope s_law_is_name) .none kV_law_is_name dc_law_is_name pm_law_is_name an_law_is_name cd_law_is_name ct_law_is_name), sl_law_is_name⟩)
    (c_law_is_name : PySem.W.codeIn K cd_law_is_name "_law_is_name" = true)
    (k_law_is_name : PySem.W.keepIn K (.ref f_law_is_name) = true)
    (a_law_is_path : PySem.W.nsIn K mainGlobals "_law_is_path" = some (some (.ref f_law_is_path)))
    (l_law_is_path : K.lookup f_law_is_path = some ⟨oc_law_is_path, od_law_is_path, .func (PySem.W.fnOf "_law_is_path" "_law_is_path" (defArgs s_law_is_path) (defBody s_law_is_path) (defScope s_law_is_path) .none kV_law_is_path dc_law_is_path pm_law_is_path an_law_is_path cd_law_is_path ct_law_is_path), sl_law_is_path⟩)
    (c_law_is_path : PySem.W.codeIn K cd_law_is_path "_law_is_path" = true)
    (k_law_is_path : PySem.W.keepIn K (.ref f_law_is_path) = true)
    (a_law_spoilt : PySem.W.nsIn K mainGlobals "_law_spoilt" = some (some (.ref f_law_spoilt)))
    (l_law_spoilt : K.lookup f_law_spoilt = some ⟨oc_law_spoilt, od_law_spoilt, .func (PySem.W.fnOf "_law_spoilt" "_law_spoilt" (defArgs s_law_spoilt) (defBody s_law_spoilt) (defScope s_law_spoilt) .none kV_law_spoilt dc_law_spoilt pm_law_spoilt an_law_spoilt cd_law_spoilt ct_law_spoilt), sl_law_spoilt⟩)
    (c_law_spoilt : PySem.W.codeIn K cd_law_spoilt "_law_spoilt" = true)
    (k_law_spoilt : PySem.W.keepIn K (.ref f_law_spoilt) = true)
    (a_law_drawn : PySem.W.nsIn K mainGlobals "_law_drawn" = some (some (.ref f_law_drawn)))
    (l_law_drawn : K.lookup f_law_drawn = some ⟨oc_law_drawn, od_law_drawn, .func (PySem.W.fnOf "_law_drawn" "_law_drawn" (defArgs s_law_drawn) (defBody s_law_drawn) (defScope s_law_drawn) .none kV_law_drawn dc_law_drawn pm_law_drawn an_law_drawn cd_law_drawn ct_law_drawn), sl_law_drawn⟩)
    (c_law_drawn : PySem.W.codeIn K cd_law_drawn "_law_drawn" = true)
    (k_law_drawn : PySem.W.keepIn K (.ref f_law_drawn) = true)
    (a_law : PySem.W.nsIn K mainGlobals "law" = some (some (.ref f_law)))
    (l_law : K.lookup f_law = some ⟨oc_law, od_law, .func (PySem.W.fnOf "law" "law" (defArgs s_law) (defBody s_law) (defScope s_law) .none kV_law dc_law pm_law an_law cd_law ct_law), sl_law⟩)
    (c_law : PySem.W.codeIn K cd_law "law" = true)
    (k_law : PySem.W.keepIn K (.ref f_law) = true)
    (n_LETTERS : PySem.W.nsIn K mainGlobals "LETTERS" = some (some (.str "abcdefghijklmnopqrstuvwxyz" t_LETTERS)))
    (n_SIGNS : PySem.W.nsIn K mainGlobals "SIGNS" = some (some (.str "abcdefghijklmnopqrstuvwxyz0123456789_" t_SIGNS)))
    (n_MOST_SIGNS : PySem.W.nsIn K mainGlobals "MOST_SIGNS" = some (some (.int 8 t_MOST_SIGNS)))
    (n_RESERVED : PySem.W.nsIn K mainGlobals "RESERVED" = some (some (.ref a_RESERVED)))
    (l_RESERVED : K.lookup a_RESERVED = some ⟨.type "tuple", od_RESERVED, .seq us_RESERVED.toArray nn_RESERVED, sl_RESERVED⟩)
    (s_RESERVED : us_RESERVED.length ≤ 1000)
    (v_RESERVED : Vals [V.str "as", V.str "ask", V.str "call", V.str "def", V.str "each", V.str "else", V.str "entry", V.str "except", V.str "fail", V.str "if", V.str "in", V.str "let", V.str "offer", V.str "return", V.str "set", V.str "table", V.str "there", V.str "try", V.str "use"] us_RESERVED)
    (z_isinstance : PySem.W.nsIn K mainGlobals "isinstance" = some none)
    (z_str : PySem.W.nsIn K mainGlobals "str" = some none)
    (z_all : PySem.W.nsIn K mainGlobals "all" = some none)
    (z_len : PySem.W.nsIn K mainGlobals "len" = some none)
    (z_tuple : PySem.W.nsIn K mainGlobals "tuple" = some none)
    (z_list : PySem.W.nsIn K mainGlobals "list" = some none)
    (z_int : PySem.W.nsIn K mainGlobals "int" = some none)
    (z_range : PySem.W.nsIn K mainGlobals "range" = some none)
    (z_min : PySem.W.nsIn K mainGlobals "min" = some none)
    (z_repr : PySem.W.nsIn K mainGlobals "repr" = some none) :
    ∃ fd : FuncData, (∀ (s : Shared) (v : Value), BindsTo s fd ⟨[v], []⟩ [("_law_script", v)]) ∧ ∀ base : Heap, K.In base → base.Ns mainGlobals mg → FnG l.prog w K mg base CX0 7 fa fd ["_law_script"] (spLaw K) := by
  have e3 : fa = f_law := by
    have z := hfa.symm.trans (PySem.W.mg_of X G a_law)
    injection z with z
    injection z
  have T : Nonempty { T : Txt K mg // T.f_law = f_law ∧ T.fd_law = PySem.W.fnOf "law" "law" (defArgs s_law) (defBody s_law) (defScope s_law) .none kV_law dc_law pm_law an_law cd_law ct_law } := ⟨⟨{
    f_is_word := f_is_word, fd_is_word := _, F_is_word := fun_mk (st := s_is_word) l_is_word c_is_word k_is_word, g_is_word := PySem.W.mg_of X G a_is_word,
    b_is_word := (fun_mk (st := s_is_word) l_is_word c_is_word k_is_word).binds (ps := ["value"]) fun _ _ _ _ _ _ us hl => match us, hl with | [_], _ => rfl,
    f_is_name := f_is_name, fd_is_name := _, F_is_name := fun_mk (st := s_is_name) l_is_name c_is_name k_is_name, g_is_name := PySem.W.mg_of X G a_is_name,
    b_is_name := (fun_mk (st := s_is_name) l_is_name c_is_name k_is_name).binds (ps := ["value"]) fun _ _ _ _ _ _ us hl => match us, hl with | [_], _ => rfl,
    f_is_path := f_is_path, fd_is_path := _, F_is_path := fun_mk (st := s_is_path) l_is_path c_is_path k_is_path, g_is_path := PySem.W.mg_of X G a_is_path,
    b_is_path := (fun_mk (st := s_is_path) l_is_path c_is_path k_is_path).binds (ps := ["value"]) fun _ _ _ _ _ _ us hl => match us, hl with | [_], _ => rfl,
    f_law_begun := f_law_begun, fd_law_begun := _, F_law_begun := fun_mk (st := s_law_begun) l_law_begun c_law_begun k_law_begun, g_law_begun := PySem.W.mg_of X G a_law_begun,
    b_law_begun := (fun_mk (st := s_law_begun) l_law_begun c_law_begun k_law_begun).binds (ps := ["_law_script"]) fun _ _ _ _ _ _ us hl => match us, hl with | [_], _ => rfl,
    f_law_mixed := f_law_mixed, fd_law_mixed := _, F_law_mixed := fun_mk (st := s_law_mixed) l_law_mixed c_law_mixed k_law_mixed, g_law_mixed := PySem.W.mg_of X G a_law_mixed,
    b_law_mixed := (fun_mk (st := s_law_mixed) l_law_mixed c_law_mixed k_law_mixed).binds (ps := ["_law_state"]) fun _ _ _ _ _ _ us hl => match us, hl with | [_], _ => rfl,
    f_law_take := f_law_take, fd_law_take := _, F_law_take := fun_mk (st := s_law_take) l_law_take c_law_take k_law_take, g_law_take := PySem.W.mg_of X G a_law_take,
    b_law_take := (fun_mk (st := s_law_take) l_law_take c_law_take k_law_take).binds (ps := ["_law_state", "_law_size"]) fun _ _ _ _ _ _ us hl => match us, hl with | [_, _], _ => rfl,
    f_law_pick := f_law_pick, fd_law_pick := _, F_law_pick := fun_mk (st := s_law_pick) l_law_pick c_law_pick k_law_pick, g_law_pick := PySem.W.mg_of X G a_law_pick,
    b_law_pick := (fun_mk (st := s_law_pick) l_law_pick c_law_pick k_law_pick).binds (ps := ["_law_state", "_law_some"]) fun _ _ _ _ _ _ us hl => match us, hl with | [_, _], _ => rfl,
    f_law_reserved := f_law_reserved, fd_law_reserved := _, F_law_reserved := fun_mk (st := s_law_reserved) l_law_reserved c_law_reserved k_law_reserved, g_law_reserved := PySem.W.mg_of X G a_law_reserved,
    b_law_reserved := (fun_mk (st := s_law_reserved) l_law_reserved c_law_reserved k_law_reserved).binds (ps := []) fun _ _ _ _ _ _ us hl => match us, hl with | [], _ => rfl,
    f_law_any_word := f_law_any_word, fd_law_any_word := _, F_law_any_word := fun_mk (st := s_law_any_word) l_law_any_word c_law_any_word k_law_any_word, g_law_any_word := PySem.W.mg_of X G a_law_any_word,
    b_law_any_word := (fun_mk (st := s_law_any_word) l_law_any_word c_law_any_word k_law_any_word).binds (ps := ["_law_state", "_law_least", "_law_most"]) fun _ _ _ _ _ _ us hl => match us, hl with | [_, _, _], _ => rfl,
    f_law_any_name := f_law_any_name, fd_law_any_name := _, F_law_any_name := fun_mk (st := s_law_any_name) l_law_any_name c_law_any_name k_law_any_name, g_law_any_name := PySem.W.mg_of X G a_law_any_name,
    b_law_any_name := (fun_mk (st := s_law_any_name) l_law_any_name c_law_any_name k_law_any_name).binds (ps := ["_law_state"]) fun _ _ _ _ _ _ us hl => match us, hl with | [_], _ => rfl,
    f_law_is_word := f_law_is_word, fd_law_is_word := _, F_law_is_word := fun_mk (st := s_law_is_word) l_law_is_word c_law_is_word k_law_is_word, g_law_is_word := PySem.W.mg_of X G a_law_is_word,
    b_law_is_word := (fun_mk (st := s_law_is_word) l_law_is_word c_law_is_word k_law_is_word).binds (ps := ["_law_worth"]) fun _ _ _ _ _ _ us hl => match us, hl with | [_], _ => rfl,
    f_law_is_name := f_law_is_name, fd_law_is_name := _, F_law_is_name := fun_mk (st := s_law_is_name) l_law_is_name c_law_is_name k_law_is_name, g_law_is_name := PySem.W.mg_of X G a_law_is_name,
    b_law_is_name := (fun_mk (st := s_law_is_name) l_law_is_name c_law_is_name k_law_is_name).binds (ps := ["_law_worth"]) fun _ _ _ _ _ _ us hl => match us, hl with | [_], _ => rfl,
    f_law_is_path := f_law_is_path, fd_law_is_path := _, F_law_is_path := fun_mk (st := s_law_is_path) l_law_is_path c_law_is_path k_law_is_path, g_law_is_path := PySem.W.mg_of X G a_law_is_path,
    b_law_is_path := (fun_mk (st := s_law_is_path) l_law_is_path c_law_is_path k_law_is_path).binds (ps := ["_law_worth"]) fun _ _ _ _ _ _ us hl => match us, hl with | [_], _ => rfl,
    f_law_spoilt := f_law_spoilt, fd_law_spoilt := _, F_law_spoilt := fun_mk (st := s_law_spoilt) l_law_spoilt c_law_spoilt k_law_spoilt, g_law_spoilt := PySem.W.mg_of X G a_law_spoilt,
    b_law_spoilt := (fun_mk (st := s_law_spoilt) l_law_spoilt c_law_spoilt k_law_spoilt).binds (ps := ["_law_state", "_law_worth"]) fun _ _ _ _ _ _ us hl => match us, hl with | [_, _], _ => rfl,
    f_law_drawn := f_law_drawn, fd_law_drawn := _, F_law_drawn := fun_mk (st := s_law_drawn) l_law_drawn c_law_drawn k_law_drawn, g_law_drawn := PySem.W.mg_of X G a_law_drawn,
    b_law_drawn := (fun_mk (st := s_law_drawn) l_law_drawn c_law_drawn k_law_drawn).binds (ps := ["_law_state"]) fun _ _ _ _ _ _ us hl => match us, hl with | [_], _ => rfl,
    f_law := f_law, fd_law := _, F_law := fun_mk (st := s_law) l_law c_law k_law, g_law := PySem.W.mg_of X G a_law,
    b_law := (fun_mk (st := s_law) l_law c_law k_law).binds (ps := ["_law_script"]) fun _ _ _ _ _ _ us hl => match us, hl with | [_], _ => rfl,
    c_LETTERS := ⟨_, PySem.W.mg_of X G n_LETTERS⟩,
    c_SIGNS := ⟨_, PySem.W.mg_of X G n_SIGNS⟩,
    c_MOST_SIGNS := ⟨_, PySem.W.mg_of X G n_MOST_SIGNS⟩,
    a_RESERVED := a_RESERVED, c_RESERVED := PySem.W.mg_of X G n_RESERVED, q_RESERVED := fun H => .inr ⟨_, us_RESERVED.toArray, _, l_RESERVED, rfl, rfl, Nat.le_of_lt (small1000 (by simpa using s_RESERVED)), by simpa using v_RESERVED⟩,
    z_isinstance := PySem.W.mg_none_of X G z_isinstance,
    z_str := PySem.W.mg_none_of X G z_str,
    z_all := PySem.W.mg_none_of X G z_all,
    z_len := PySem.W.mg_none_of X G z_len,
    z_tuple := PySem.W.mg_none_of X G z_tuple,
    z_list := PySem.W.mg_none_of X G z_list,
    z_int := PySem.W.mg_none_of X G z_int,
    z_range := PySem.W.mg_none_of X G z_range,
    z_min := PySem.W.mg_none_of X G z_min,
    z_repr := PySem.W.mg_none_of X G z_repr }, rfl, rfl⟩⟩
  obtain ⟨T, e1, e2⟩ := T
  refine ⟨PySem.W.fnOf "law" "law" (defArgs s_law) (defBody s_law) (defScope s_law) .none kV_law dc_law pm_law an_law cd_law ct_law, fun s v => .of_eq rfl, fun base _ _ => ?_⟩
  rw [e3, ← e1, ← e2]
  exact ok_law T
theorem walk {l : PySem.W.OpenLaw} {q : Program} {loose : List Str} {XP : (Str → Option Value) → Heap → Prop} {YP : World → Heap → Prop} {d : DefRec} {K : Params → PySem.W.Frag} (hn : l.most = some 63) (hdf : d.params.defaults = [])
    (hY : ∀ (w : World) (h : Heap), YP w h → (K w.params).In h)
    (F : ∀ (w : World) (mg : Str → Option Value) (fa : Addr) (h : Heap), (K w.params).In h → h.Ns mainGlobals mg → mg d.name = some (.ref fa) →
      ∃ fd : FuncData, (∀ (s : Shared) (u : Value), BindsTo s fd ⟨[u], []⟩ [("_law_script", u)]) ∧ ∀ base : Heap, (K w.params).In base → base.Ns mainGlobals mg → FnG l.prog w (K w.params) mg base CX0 7 fa fd ["_law_script"] (spLaw (K w.params))) :
    PySem.W.WalkO q loose XP YP l.row.toRowW d [] (fun f vs => PySem.call f vs) :=
  walkG (n := 63) (k := 7) (x := "_law_script") (CX := fun _ => CX0) (sp := fun w => spLaw (K w.params)) hn (by decide) hdf ⟨rfl, by decide, by decide⟩ hY F
    (fun _ _ a ns hl _ hS => ⟨a, ns, rfl, hS, hl, fun _ => rfl⟩) fun _ _ _ _ _ z => z
end Sn
open PySem PySem.W PyProof.Rows
set_option maxRecDepth 100000 in
set_option maxHeartbeats 0 in
theorem PySem.Challenge.cw_sparenames_k02_words_and_names_holds : PySem.Challenge.rw_sparenames_k02_words_and_names.Holds := by
  w_on; o_law; k_head; (case hw => w_witness2)
  k_fill
  refine Sn.walk (l := PySem.Challenge.rw_sparenames_k02_words_and_names) rfl rfl (fun w h Y => PySem.W.kIn_of Y) ?F
  case F =>
    intro w mg fa h KX G hmg
    refine' Sn.all_mk KX G hmg ?a_is_word ?l_is_word ?c_is_word ?k_is_word ?a_is_name ?l_is_name ?c_is_name ?k_is_name ?a_is_path ?l_is_path ?c_is_path ?k_is_path ?a_law_begun ?l_law_begun ?c_law_begun ?k_law_begun ?a_law_mixed ?l_law_mixed ?c_law_mixed ?k_law_mixed ?a_law_take ?l_law_take ?c_law_take ?k_law_take ?a_law_pick ?l_law_pick ?c_law_pick ?k_law_pick ?a_law_reserved ?l_law_reserved ?c_law_reserved ?k_law_reserved ?a_law_any_word ?l_law_any_word ?c_law_any_word ?k_law_any_word ?a_law_any_name ?l_law_any_name ?c_law_any_name ?k_law_any_name ?a_law_is_word ?l_law_is_word ?c_law_is_word ?k_law_is_word ?a_law_is_name ?l_law_is_name ?c_law_is_name ?k_law_is_name ?a_law_is_path ?l_law_is_path ?c_law_is_path ?k_law_is_path ?a_law_spoilt ?l_law_spoilt ?c_law_spoilt ?k_law_spoilt ?a_law_drawn ?l_law_drawn ?c_law_drawn ?k_law_drawn ?a_law ?l_law ?c_law ?k_law ?n_LETTERS ?n_SIGNS ?n_MOST_SIGNS ?n_RESERVED ?l_RESERVED ?s_RESERVED ?v_RESERVED ?z_isinstance ?z_str ?z_all ?z_len ?z_tuple ?z_list ?z_int ?z_range ?z_min ?z_repr
    (case a_is_word => k_is)
    (case l_is_word => k_is)
    (case c_is_word => k_is)
    (case k_is_word => k_is)
    (case a_is_name => k_is)
    (case l_is_name => k_is)
    (case c_is_name => k_is)
    (case k_is_name => k_is)
    (case a_is_path => k_is)
    (case l_is_path => k_is)
    (case c_is_path => k_is)
    (case k_is_path => k_is)
    (case a_law_begun => k_is)
    (case l_law_begun => k_is)
    (case c_law_begun => k_is)
    (case k_law_begun => k_is)
    (case a_law_mixed => k_is)
    (case l_law_mixed => k_is)
    (case c_law_mixed => k_is)
    (case k_law_mixed => k_is)
    (case a_law_take => k_is)
    (case l_law_take => k_is)
    (case c_law_take => k_is)
    (case k_law_take => k_is)
    (case a_law_pick => k_is)
    (case l_law_pick => k_is)
    (case c_law_pick => k_is)
    (case k_law_pick => k_is)
    (case a_law_reserved => k_is)
    (case l_law_reserved => k_is)
    (case c_law_reserved => k_is)
    (case k_law_reserved => k_is)
    (case a_law_any_word => k_is)
    (case l_law_any_word => k_is)
    (case c_law_any_word => k_is)
    (case k_law_any_word => k_is)
    (case a_law_any_name => k_is)
    (case l_law_any_name => k_is)
    (case c_law_any_name => k_is)
    (case k_law_any_name => k_is)
    (case a_law_is_word => k_is)
    (case l_law_is_word => k_is)
    (case c_law_is_word => k_is)
    (case k_law_is_word => k_is)
    (case a_law_is_name => k_is)
    (case l_law_is_name => k_is)
    (case c_law_is_name => k_is)
    (case k_law_is_name => k_is)
    (case a_law_is_path => k_is)
    (case l_law_is_path => k_is)
    (case c_law_is_path => k_is)
    (case k_law_is_path => k_is)
    (case a_law_spoilt => k_is)
    (case l_law_spoilt => k_is)
    (case c_law_spoilt => k_is)
    (case k_law_spoilt => k_is)
    (case a_law_drawn => k_is)
    (case l_law_drawn => k_is)
    (case c_law_drawn => k_is)
    (case k_law_drawn => k_is)
    (case a_law => k_is)
    (case l_law => k_is)
    (case c_law => k_is)
    (case k_law => k_is)
    (case n_LETTERS => k_is)
    (case n_SIGNS => k_is)
    (case n_MOST_SIGNS => k_is)
    (case n_RESERVED => k_is)
    (case l_RESERVED => k_is)
    (case s_RESERVED => decide)
    (case v_RESERVED => exact (.cons ⟨_, rfl⟩ (.cons ⟨_, rfl⟩ (.cons ⟨_, rfl⟩ (.cons ⟨_, rfl⟩ (.cons ⟨_, rfl⟩ (.cons ⟨_, rfl⟩ (.cons ⟨_, rfl⟩ (.cons ⟨_, rfl⟩ (.cons ⟨_, rfl⟩ (.cons ⟨_, rfl⟩ (.cons ⟨_, rfl⟩ (.cons ⟨_, rfl⟩ (.cons ⟨_, rfl⟩ (.cons ⟨_, rfl⟩ (.cons ⟨_, rfl⟩ (.cons ⟨_, rfl⟩ (.cons ⟨_, rfl⟩ (.cons ⟨_, rfl⟩ (.cons ⟨_, rfl⟩ .nil))))))))))))))))))))
    (case z_isinstance => k_is)
    (case z_str => k_is)
    (case z_all => k_is)
    (case z_len => k_is)
    (case z_tuple => k_is)
    (case z_list => k_is)
    (case z_int => k_is)
    (case z_range => k_is)
    (case z_min => k_is)
    (case z_repr => k_is)
#print axioms PySem.Challenge.cw_sparenames_k02_words_and_names_holds

