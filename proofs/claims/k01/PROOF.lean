import PyProof.Rows.All
import Wide.All
import OpenK.AllK
import Wide.FinOn
import HandS.ForMost
import HandS.IsInst
import HandS.Flow
import HandS.Walk
import HandS.Codes
import PyProof.TupleOfStr
import PyProof.ReprRoads
import HandS.OwnEq
import HandS.DictComp
import HandS.Star
import HandS.Conv
import HandS.ClsMeth
import KE.GoesMore
import HandS.ExcInit
import HandS.ExcValue
import HandS.ExcField
import HandS.ExcOwn
import HandS.WordsExc
import KE.KExcSuper
import KE.KExcIs
import HandS.ExcIs
import KE.KSuperObj
import HandS.MakeKwOnly
import PySem.Challenge.RW_sparenames_k01_errors_apart
set_option Elab.async false
set_option linter.all false
set_option maxRecDepth 100000
set_option maxHeartbeats 4000000
/-! ## A small layer of our own over HandS: defs whose callers have no repr under way (guards), repr of data, tuple(text) -/
namespace Sn
open PySem PySem.Spec PyProof.Rows L2

/-! ### a def's promise where no repr is under way -/
section
variable {P : Program} {w : World} {K : PySem.W.Frag} {mg : Str → Option Value} {base : Heap} {CX : CXT}
structure FnG (P : Program) (w : World) (K : PySem.W.Frag) (mg : Str → Option Value)
    (base : Heap) (CX : CXT) (k : Nat) (f : Addr) (fd : FuncData) (ps : List Str) (sp : Sp) : Prop where
  leng : ∀ xs H Q E, sp xs H Q E → xs.length = ps.length
  runs : ∀ (A : Around) (fr : List Env) (s : Shared) (H : Hp) (ar : Args) (us : List Value) (xs : List V) (Q : VK) (E : XK),
    A.guards = some [] → Room k A → Env0 P w K mg base A fr s H → BindsTo s fd ar (ps.zip us) → Vals xs us → sp xs H Q E →
    codeAny (model P w) A (.call (.ref f) ar) (CR CX fr P w H s Q E) s
theorem FnG.of {k : Nat} {f : Addr} {fd : FuncData} {ps : List Str} {sp : Sp}
    (F : FnOk P w K mg base CX k f fd ps sp) : FnG P w K mg base CX k f fd ps sp :=
  ⟨F.len, fun A fr s H ar us xs Q E _ a b c d e => F.run A fr s H ar us xs Q E a b c d e⟩
theorem fnG_of {k : Nat} {f : Addr} {nm ql : Str} {pa : Arguments} {bd : List Stmt} {sc : Scope}
    {dV kV dc pm cd ct oc : Value} {an od : Option Addr} {sl : Array (Option Value)} {N ps : List Str} {sp : Sp}
    (lk : K.lookup f = some ⟨oc, od, .func (PySem.W.fnOf nm ql pa bd sc dV kV dc pm an cd ct), sl⟩)
    (hc : PySem.W.codeIn K cd ql = true) (S : FnScope N ps sc) (leng : ∀ xs H Q E, sp xs H Q E → xs.length = ps.length)
    (hb : ∀ (A : Around) (fr : List Env) (s : Shared) (H : Hp) (xs : List V) (Q : VK) (E : XK),
      (A.deeper (envOfC ql sc s.heap.objs.size f cd)).guards = some [] → Room k (A.deeper (envOfC ql sc s.heap.objs.size f cd)) →
      sp xs H Q E → ∃ t, PSs (cxOf CX P w K mg base N ql sc f cd A fr s H E) bd t ∧
        t { nx := fun _ H' => Q .non H', rt := Q } (start N xs) H) :
    FnG P w K mg base CX (k + 1) f (PySem.W.fnOf nm ql pa bd sc dV kV dc pm an cd ct) ps sp := by
  refine ⟨leng, ?_⟩
  intro A fr s H ar us xs Q E hg hr e0 hbi rv hsp
  have hlen := leng _ _ _ _ hsp
  have kin : K.In s.heap := e0.mod.kin.keeps fun b o q => (e0.bs b o q).1
  have nol : s.heap.NoLimit := e0.mod.nolimit.keeps fun b o q => (e0.bs b o q).1
  have knd : ∀ y ∈ ps.zip us, sc.names.lookup y.1 = some .local ∨ (sc.names.lookup y.1 = some .cell ∧
      ((cellsFrom (s.heap.objs.size + 1) sc.names []).lookup y.1).isSome = true) := by
    rintro ⟨n, v⟩ hy
    exact (S.par n (List.of_mem_zip hy).1).elim .inl fun q => .inr ⟨q, PySem.W.cellsFrom_some _ _ _ (.inl q)⟩
  refine codeAny_call_function hr.depth (kin _ _ lk) rfl S.co S.gen rfl (PySem.W.codeRec_of kin hc) ?_
  refine hbi _ _ _ _ ?_
  refine wpAny_newFunctionEnv_cells S.kind knd ?_
  rintro env rfl s1 x
  refine ⟨nol.keeps x.toInCall.keep, codeAny_func ?_⟩
  obtain ⟨t, ht, hq⟩ := hb A fr s H xs Q E hg (hr.deeper _) hsp
  have J : Inv (cxOf CX P w K mg base N ql sc f cd A fr s H E) [] (start N xs) H s1 :=
    inv_start S hr.hd e0 hlen rv x
  refine wpAny_mono (ht.run [] s1 (start N xs) H _ J hq) ?_ fun e s' z => z
  intro fl s' hs
  match fl, hs with
  | .ret u, ⟨v, σ', H', J', rr, qq⟩ => exact ⟨v, H', J'.os, J'.bare, J'.base, J'.hok, rr, qq⟩
  | .next, ⟨σ', H', J', qq⟩ => exact ⟨V.non, H', J'.os, J'.bare, J'.base, J'.hok, rfl, qq⟩
  | .brk, ⟨_, _, _, qq⟩ => exact False.elim qq
  | .cont, ⟨_, _, _, qq⟩ => exact False.elim qq
theorem okG {x ql : Str} {st : Stmt} {f : Addr} {fd : FuncData} {N ps : List Str} {k : Nat} {sp : Sp}
    (F : Fun K x ql st f fd) (S : FnScope N ps (defScope st)) (leng : ∀ xs H Q E, sp xs H Q E → xs.length = ps.length)
    (hb : ∀ (cd : Value) (A : Around) (fr : List Env) (s : Shared) (H : Hp) (xs : List V) (Q : VK) (E : XK),
      (A.deeper (envOfC ql (defScope st) s.heap.objs.size f cd)).guards = some [] →
      Room k (A.deeper (envOfC ql (defScope st) s.heap.objs.size f cd)) → sp xs H Q E →
      ∃ t, PSs (cxOf CX0 P w K mg base N ql (defScope st) f cd A fr s H E).nox (defBody st) t ∧
        t { nx := fun _ H' => Q .non H', rt := Q } (start N xs) H) :
    FnG P w K mg base CX0 (k + 1) f fd ps sp := by
  obtain ⟨oc, od, kV, dc, pm, an, cd, ct, sl, rfl, lk, hcd⟩ := F.ex
  refine fnG_of lk hcd S leng fun A fr s H xs Q E hg hr h => ?_
  obtain ⟨t, a, b⟩ := hb cd A fr s H xs Q E hg hr h
  exact ⟨t, a.nox, b⟩
end

section
variable {X : Cx} {CX : CXT} {k : Nat} {f : Addr} {fd : FuncData} {ps : List Str} {sp : Sp} {dvs : List V} {ds : List Value}
  {E : XK} {x : Str} {p pos : Pos} {e : Expr} {es : List Expr} {t : TA}
theorem runG {pins : List (Addr × Obj)} {σ : L2.St} {H : Hp} {s : Shared} {Q : VK} {us : List Value} {xs : List V}
    (F : FnG X.prog X.w X.K X.mg X.base CX k f fd ps sp) (hgu : X.A.guards = some []) (hr : Room k X.A)
    (hb : Binds X.K fd ps ds) (hd : Vals dvs ds) (hx : Passes CX X E) (I : Inv X pins σ H s) (r : Vals xs us)
    (h : sp (xs ++ dvs) H Q E) : wpAny (model X.prog X.w) X.A (call (.ref f) us) (EP X pins σ Q) X.xe s := by
  have r2 : Vals (xs ++ dvs) (us ++ ds) := r.append hd
  have hl : (us ++ ds).length = ps.length := r2.length.symm.trans (F.leng _ _ _ _ h)
  refine wpAny_call (codeAny_mono (F.runs X.A X.stack s H ⟨us, []⟩ _ _ Q E hgu hr I.env0 (hb s us I.kIn hl) r2 h) ?_)
  intro r s' hq
  match r, hq with
  | .error e, hq => exact hx pins σ H s e s' I hq
  | .ok (.ret u), hq => exact I.after hq
  | .ok .next, hq => exact False.elim hq
  | .ok .brk, hq => exact False.elim hq
  | .ok .cont, hq => exact False.elim hq
/-- f(e, ..) where no repr is under way -/
theorem pe_callG (F : FnG X.prog X.w X.K X.mg X.base CX k f fd ps sp) (hgu : X.A.guards = some []) (hr : Room k X.A) (hg : Gl X x)
    (hm : X.mg x = some (.ref f)) (hk : PySem.W.keepIn X.K (.ref f) = true) (hb : Binds X.K fd ps ds) (hd : Vals dvs ds)
    (hx : Passes CX X E) (ha : PA X (e :: es) t) (hdb : (x == ("__debug__" : Str)) = false := by decide)
    (he : starEach (e :: es) X.env = (false, eval e X.env) :: starEach es X.env := by rfl)
    (hpl : (backTo pos (starEach es X.env)).any (·.1) = false := by rfl) :
    PE X (.Call (.Name x p) (e :: es) [] pos) (tCall sp dvs E t) := by
  refine ⟨fun pins s σ H Q I h => wpAny_Call_Name_kw (ld_glob I hg hm ?_ hdb)⟩
  refine PySem.W.callWith_K (h₀ := X.base) I.ok.mod.kin hk ?_ he hpl
  refine thn (ha.run pos pins s σ H _ I h) ?_
  rintro us s1 ⟨xs, H1, I1, r, q⟩
  exact ⟨I1.kIn, runG F hgu hr hb hd hx I1 r q⟩

/-- f(k = v, ..), keywords alone -/
theorem pe_callK0 {kws : List Keyword} {tk : TA} {ks : List Str} {g : List Value → List Value → List Value} {gV : List V → List V → List V}
    (F : FnOk X.prog X.w X.K X.mg X.base CX k f fd ps sp) (hr : Room k X.A) (hg : Gl X x) (hm : X.mg x = some (.ref f))
    (hk : PySem.W.keepIn X.K (.ref f) = true) (hb : KBinds X.K fd ps ks g gV) (hx : Passes CX X E) (hkw : PK X kws tk)
    (hall : (backToKw pos (keywordEach kws X.env)).all (·.1.isSome) = true := by rfl)
    (hks : (backToKw pos (keywordEach kws X.env)).filterMap (·.1) = ks := by rfl) (hdb : (x == ("__debug__" : Str)) = false := by decide)
    (hpl : (backToKw pos (keywordEach kws X.env)).any (·.1.isNone) = false := by rfl) :
    PE X (.Call (.Name x p) [] kws pos) (tCallK sp gV E tNil tk) := by
  refine ⟨fun pins s σ H Q I h => wpAny_Call_Name_kw (ld_glob I hg hm ?_ hdb)⟩
  refine PySem.W.callWith_KW0 (h₀ := X.base) I.ok.mod.kin hk hall ?_ hpl
  refine thn (hkw.run pos pins s σ H _ I h) ?_
  rintro ws s2 ⟨zs, H2, I2, rz, q2⟩
  refine ⟨I2.kIn, ?_⟩
  rw [hks]
  exact run_fnk F hr hb hx I2 .nil rz q2
/-- repr of data that stands at an address -/
theorem call_repr (hgu : X.A.guards = some []) (hu : X.A.units + 70 < cLine) : CallR X (.builtin "repr")
    (fun xs H Q => ∃ (a : Addr) (d : PyData), xs = [.ref a] ∧ Dp X.K H (.ref a) d ∧ d.showable = true ∧ d.hasDict = false ∧
      d.depth ≤ 64 ∧ d.shown.length ≤ sizeLine ∧ Q (.str d.shown) H) := by
  intro pins s σ H xs us Q I r h
  obtain ⟨a, d, rfl, hD, hs, hn, hd, hz, q⟩ := h
  obtain ⟨u, rfl, rx⟩ := vals1 r
  obtain ⟨as, rr⟩ := Dp.reads I d _ u hD rx
  cases rx
  refine repr_of_reads' rr hs (fun z => by rw [hn] at z; cases z) hgu (by omega) (fun _ _ z => z) ?_ hz
  intro h' u tk kp
  exact ⟨.str _, H, I.kept kp, ⟨_, rfl⟩, q⟩
/-- tuple(text) -/
theorem call_tupS : CallR X (.type "tuple") (fun xs H Q => ∃ z : Str, xs = [.str z] ∧ X.A.handled = none ∧ z.cps.size ≤ sizeLine ∧
      ∀ l, H l = none → Q (.ref l) (upd H l (.tup (z.cps.toList.map fun c => V.str ⟨#[c]⟩)))) := by
  intro pins s σ H xs us Q I r h
  obtain ⟨z, rfl, hh, hz, q⟩ := h
  obtain ⟨u, rfl, t, rfl⟩ := vals1 r
  refine call_tuple_str hh z t ?_ hz
  intro h' tk acc kp hacc
  have I1 : Inv X pins σ H { s with heap := h', toks := tk } := I.kept kp
  have rv : Vals (z.cps.toList.map fun c => V.str ⟨#[c]⟩) acc.toList := by
    have key : ∀ (cs : List Nat) (us : List Value), us.length = cs.length →
        (∀ (j : Nat) (v : Value), us[j]? = some v → ∃ c u, cs[j]? = some c ∧ v = Value.str ⟨#[c]⟩ u) → Vals (cs.map fun c => V.str ⟨#[c]⟩) us := by
      intro cs
      induction cs with
      | nil =>
        intro us hl _
        match us, hl with
        | [], _ => exact .nil
      | cons c cs ih =>
        intro us hl hv
        match us, hl with
        | u :: us, hl =>
          obtain ⟨c', w', e1, e2⟩ := hv 0 u rfl
          cases e1
          exact .cons ⟨w', e2⟩ (ih us (by simpa using hl) fun j v hj => hv (j + 1) v hj)
    refine key _ _ (by simpa using hacc.1) fun j v hj => ?_
    obtain ⟨c, u, e1, e2⟩ := hacc.2 j v (by simpa using hj)
    exact ⟨c, u, by simpa using e1, e2⟩
  refine ⟨.ref h'.objs.size, _, I1.laid (t' := tk) (fun b o e => Heap.get?_push_of_some _ e) (Nat.le_refl _) ?_, rfl, q _ (I1.hok.fresh (Nat.le_refl _))⟩
  refine (show ObjOk X.prog X.w _ _ _ (.tup _) from ⟨by simpa using hz, acc.toList, rv, ?_⟩)
  rw [show acc.toList.toArray = acc from by simp]
  exact ⟨_, Heap.get?_push_size _ rfl, rfl, _, rfl⟩
end

theorem hu70 {A : Around} {k : Nat} (hr : Room k A) : A.units + 70 < cLine := by have := hr.un; omega
/-! ### the law's end: the caller has no repr under way -/
theorem law_callG {P : Program} {w : World} {K : PySem.W.Frag} {mg mb : Str → Option Value} {CX : CXT} {k : Nat}
    {fa a : Addr} {fd : FuncData} {x : Str} {sp : Sp} {s₁ : Shared} {us : List Value} {ns : List Int}
    (kin : K.In s₁.heap) (hns : s₁.heap.Ns mainGlobals mg) (hbn : s₁.heap.Ns builtinsNs mb)
    (hbb : ∀ x : Str, x ≠ "__name__" → mb x = bootBuiltins x) (nol : s₁.heap.NoLimit) (hge : s₁.gens = #[])
    (ha : s₁.heap.get? a = some { cls := .type "list", data := .seq us.toArray }) (hi : IntsAre us ns)
    (hl : ns.length ≤ sizeLine) (hr : Room k callerA)
    (F : ∀ base : Heap, K.In base → base.Ns mainGlobals mg → FnG P w K mg base CX k fa fd [x] sp)
    (hbi : ∀ (s : Shared) (u : Value), BindsTo s fd ⟨[u], []⟩ [(x, u)])
    (hsp : ∀ H : Hp, Only H → SqL K H a (ns.map V.int) → sp [.ref a] H (fun v _ => v = .bl true) fun _ _ _ => False)
    (hCX : ∀ H e s', CX [] H s₁ (fun _ _ _ => False) e s' → False) :
    codeAny (model P w) callerA (.call (.ref fa) ⟨[.ref a], []⟩)
      (fun r s' => r = .ok (.ret (.bool true)) ∧ OldK s₁.heap s'.heap ∧ s'.os = s₁.os ∧ AllBare s'.gens) s₁ := by
  have rv := vals_ints hi
  have main : ∀ H : Hp, Only H → SqL K H a (ns.map V.int) → HOk P w H s₁.heap → (∀ b, H b ≠ none → b = a) →
      (H a ≠ none → K.lookup a = none) → codeAny (model P w) callerA (.call (.ref fa) ⟨[.ref a], []⟩)
      (fun r s' => r = .ok (.ret (.bool true)) ∧ OldK s₁.heap s'.heap ∧ s'.os = s₁.os ∧ AllBare s'.gens) s₁ := by
    intro H hO hS hok hA hK
    have only : ∀ {b : Addr} {u : HO}, H b = some u → b = a := fun {b u} q => hA b (by rw [q]; simp)
    have nodict : ∀ {b : Addr} {o : Obj} {es : Array DictEntry} {ep : Nat}, s₁.heap.get? b = some o → o.data = .dict es ep → H b = none := by
      intro b o es ep q d
      cases hq : H b with
      | none => rfl
      | some u =>
        cases only hq
        rw [ha] at q; cases q; cases d
    have ns2 : ∀ {b : Addr} {m : Str → Option Value}, s₁.heap.Ns b m → (hidT s₁.heap H).Ns b m := by
      rintro b m ⟨o, es, ep, q, d, r⟩
      exact ⟨o, es, ep, hidT_get q (nodict q d), d, r⟩
    have kb : K.In (hidT s₁.heap H) := by
      intro b o q
      refine hidT_get (kin b o q) ?_
      cases hq : H b with
      | none => rfl
      | some u =>
        cases only hq
        rw [hK (by rw [hq]; simp)] at q; cases q
    obtain ⟨mc, h1, h2⟩ := nol
    have e0 : Env0 P w K mg (hidT s₁.heap H) callerA [] s₁ H :=
      { frames := rfl, mod := ⟨kb, ns2 hns, ⟨mb, ns2 hbn, hbb⟩, ⟨mc, ns2 h1, h2⟩⟩, bs := fun b o q => of_hidT q
        bsz := Nat.le_of_eq (hidT_size _ _), funs := trivial, frf := (fun b z => nomatch z), hok := hok, bare := .of_eq hge }
    refine codeAny_mono ((F _ kb (ns2 hns)).runs callerA [] s₁ H ⟨[.ref a], []⟩ [.ref a] [.ref a] _ _ rfl hr e0 (hbi s₁ (.ref a)) (.cons rfl .nil) (hsp H hO hS)) ?_
    intro r s' h
    match r, h with
    | .error e, h => exact (hCX H e s' h).elim
    | .ok .next, h => exact False.elim h
    | .ok .brk, h => exact False.elim h
    | .ok .cont, h => exact False.elim h
    | .ok (.ret u), ⟨v, H', os, bare, un, hok', rr, q⟩ =>
      have q1 : v = .bl true := q
      subst q1
      have q2 : u = Value.bool true := rr
      subst q2
      refine ⟨rfl, OldK.of_keep ?_, os, bare⟩
      intro b o e
      cases hq : H b with
      | none => exact un.keep b o e hq (fun z => nomatch z) (fun z => nomatch z)
      | some u =>
        rcases hO b with z | ⟨ob, xs, z⟩
        · rw [hq] at z; cases z
        · have e1 := (hok b _ z).1
          have e2 := (hok' b _ (un.frzs b ob _ z)).1
          rw [e] at e1; cases e1
          exact e2
  have lenV := hi.length
  cases hk : K.lookup a with
  | some o =>
    have e := kin a o hk
    rw [ha] at e
    cases e
    refine main (fun _ => none) (fun _ => .inl rfl) (.inr ⟨_, us.toArray, _, hk, rfl, rfl, rfl, ?_, by simpa using rv⟩) (fun b u z => nomatch z) (fun b z => absurd rfl z) fun z => absurd rfl z
    rw [List.size_toArray, lenV]; exact hl
  | none =>
    have only1 : ∀ b, ¬ b = a → (if b = a then some (HO.frz { cls := .type "list", data := .seq us.toArray } (.lst (ns.map V.int))) else none) = none := fun b h => if_neg h
    refine main (fun b => if b = a then some (.frz { cls := .type "list", data := .seq us.toArray } (.lst (ns.map V.int))) else none) ?_ (.inl (.inr ⟨_, if_pos rfl⟩)) ?_ ?_ fun _ => hk
    · intro b
      by_cases hb : b = a
      · exact .inr ⟨_, _, if_pos hb⟩
      · exact .inl (if_neg hb)
    · intro b u z
      by_cases hb : b = a
      · have z2 := (if_pos hb).symm.trans z
        cases z2
        subst hb
        exact ⟨ha, by rw [List.length_map]; exact hl, us, _, rv, ha⟩
      · have z2 := (if_neg hb).symm.trans z
        cases z2
    · intro b z
      exact Decidable.byContradiction fun hb => z (if_neg hb)
theorem walkG {l : PySem.W.OpenLaw} {n k : Nat} {q : Program} {loose : List Str} {XP : (Str → Option Value) → Heap → Prop}
    {YP : World → Heap → Prop} {d : DefRec} {K : Params → PySem.W.Frag} {CX : World → CXT} {sp : World → Sp} {x : Str}
    (hn : l.most = some n) (hn2 : n ≤ sizeLine) (hdf : d.params.defaults = []) (hr : Room k callerA)
    (hY : ∀ (w : World) (h : Heap), YP w h → (K w.params).In h)
    (F : ∀ (w : World) (mg : Str → Option Value) (fa : Addr) (h : Heap), (K w.params).In h → h.Ns mainGlobals mg →
      mg d.name = some (.ref fa) → ∃ fd : FuncData, (∀ (s : Shared) (u : Value), BindsTo s fd ⟨[u], []⟩ [(x, u)]) ∧
        ∀ base : Heap, (K w.params).In base → base.Ns mainGlobals mg → FnG l.prog w (K w.params) mg base (CX w) k fa fd [x] (sp w))
    (hsp : ∀ (w : World) (H : Hp) (a : Addr) (ns : List Int), ns.length ≤ n → Only H → SqL (K w.params) H a (ns.map V.int) →
      sp w [.ref a] H (fun v _ => v = .bl true) fun _ _ _ => False)
    (hCX : ∀ (w : World) (H : Hp) (s : Shared) (e : Value) (s' : Shared), CX w [] H s (fun _ _ _ => False) e s' → False) :
    PySem.W.WalkO q loose XP YP l.row.toRowW d [] (fun f vs => PySem.call f vs) := by
  refine Att.attach_call hn hdf ?_
  intro w s₀ s₁ mg mb fa o pm cd doc a us ns G Y ho hd hcd hmg hobj hints hlen hg
  have kin := hY w _ Y
  obtain ⟨fd, hb, hF⟩ := F w mg fa _ kin G.T.g hmg
  exact law_callG kin G.T.g G.T.b G.T.builtins G.T.nolimit hg hobj hints (Nat.le_trans hlen hn2) hr hF hb
    (fun H hO hS => hsp w H a ns hlen hO hS) fun H e s' => hCX w H s₁ e s'
end Sn

/-! ## Words, names and paths, in plain Lean -/
namespace Sn
open PySem PySem.Spec PyProof.Rows L2 TL

def sgnS : Str := "abcdefghijklmnopqrstuvwxyz0123456789_"
def letS : Str := "abcdefghijklmnopqrstuvwxyz"
def resv : List Str := ["as", "ask", "call", "def", "each", "else", "entry", "except", "fail", "if", "in", "let", "offer", "return",
  "set", "table", "there", "try", "use"]
/-- a word: at most eight signs, all of them out of the alphabet -/
def isW (z : Str) : Bool := decide (z.length ≤ 8) && (tl z).all fun c => decide (c ∈ tl sgnS)
/-- its first sign is a letter -/
def fstL (z : Str) : Bool := match tl z with
  | [] => false
  | c :: _ => decide (c ∈ tl letS)
def isN (z : Str) : Bool := isW z && (fstL z && !decide (z ∈ resv))
def isP (z : Str) : Bool := decide ((Txt.split z ".").length = 2) && (Txt.split z ".").all isN

/-! ### a value that is one of some texts -/
theorem inV_strs (z : Str) : ∀ l : List Str, inV (.str z) (l.map V.str) = decide (z ∈ l)
  | [] => rfl
  | x :: l => by
    show ((x == z) || inV (.str z) (l.map V.str)) = _
    rw [inV_strs z l]
    by_cases h : z = x
    · subst h; simp
    · have h2 : (x == z) = false := by simpa using fun e => h e.symm
      rw [h2, Bool.false_or]
      exact decide_eq_decide.mpr ⟨fun q => List.mem_cons.mpr (.inr q), fun q => (List.mem_cons.mp q).resolve_left h⟩
theorem flat_strs : ∀ l : List Str, (l.map V.str).all flatV = true
  | [] => rfl
  | x :: l => by
    show (true && (l.map V.str).all flatV) = true
    rw [flat_strs l]; rfl
theorem signs_map (l : List Nat) : (l.map fun c => V.str ⟨#[c]⟩) = ((l.map fun c => (⟨#[c]⟩ : Str)).map V.str) := by
  rw [List.map_map]; rfl
theorem cut1 (z : Str) : tl (cutS z none (some 1)) = (tl z).take 1 := by
  unfold cutS
  rw [show HT.sIx z.length z.length (some 1) = min 1 z.length from HT.sIx_nat _ _ 1, HT.sIx_none]
  show ((tl z).drop 0).take (min 1 z.length - 0) = _
  rw [List.drop_zero, Nat.sub_zero, len_tl, List.take_eq_take_iff]
  omega
theorem one_inj {c : Nat} {l : List Nat} : (⟨#[c]⟩ : Str) ∈ l.map (fun c => (⟨#[c]⟩ : Str)) ↔ c ∈ l := by
  constructor
  · intro h
    obtain ⟨x, hx, e⟩ := List.mem_map.mp h
    injection e with e
    have : x = c := by injection (congrArg Array.toList e)
    exact this ▸ hx
  · intro h; exact List.mem_map.mpr ⟨c, h, rfl⟩
/-- value[:1] in tuple(LETTERS) -/
theorem fst_in (z : Str) : inV (.str (cutS z none (some 1))) ((tl letS).map fun c => V.str ⟨#[c]⟩) = fstL z := by
  rw [signs_map, inV_strs]
  unfold fstL
  have h := cut1 z
  match e : tl z with
  | [] =>
    rw [e] at h
    rw [decide_eq_false_iff_not]
    intro hm
    obtain ⟨x, _, e2⟩ := List.mem_map.mp hm
    rw [← e2] at h
    cases h
  | c :: r =>
    rw [e] at h
    have e2 : cutS z none (some 1) = ⟨#[c]⟩ := ext_tl h
    rw [e2]
    exact decide_eq_decide.mpr one_inj

/-! ### the two readings of a path -/
theorem spl_ne (S : List Nat) : ∀ (l : List Nat) (k : Nat) (acc : List Nat), spl S k acc l ≠ []
  | [], k, acc => by rw [spl_nil]; simp
  | c :: r, 0, acc => by
    unfold spl
    split
    · simp
    · exact spl_ne S r 0 _
  | c :: r, k + 1, acc => by
    unfold spl
    exact spl_ne S r k acc
theorem cut_at {x : Nat} : ∀ {l : List Nat}, x ∈ l → ∃ a b, l = a ++ x :: b ∧ x ∉ a
  | y :: l, h => by
    by_cases e : x = y
    · exact ⟨[], l, by rw [e]; rfl, by simp⟩
    · have h2 : x ∈ l := by
        rcases List.mem_cons.mp h with q | q
        · exact absurd q e
        · exact q
      obtain ⟨a, b, e1, e2⟩ := cut_at h2
      exact ⟨y :: a, b, by rw [e1]; rfl, by
        intro q
        rcases List.mem_cons.mp q with q | q
        · exact e q
        · exact e2 q⟩
def dotS : Str := "."
theorem tl_dot : tl dotS = [46] := by decide +kernel
theorem dot_eq : dotS = ⟨#[46]⟩ := by decide +kernel
theorem split_tl (z : Str) : (Txt.split z dotS).map tl = spl [46] 0 [] (tl z) := by
  have h := split_spl z dotS (by rw [tl_dot]; simp) (kind_ok (by decide +kernel))
  rw [tl_dot] at h
  exact h
theorem spl_le (S : List Nat) : ∀ (l : List Nat) (k : Nat) (acc q : List Nat), q ∈ spl S k acc l → q.length ≤ acc.length + l.length
  | [], k, acc, q, h => by
    rw [spl_nil] at h
    rw [List.mem_singleton.mp h]; simp
  | c :: r, 0, acc, q, h => by
    unfold spl at h
    split at h
    · rcases List.mem_cons.mp h with h | h
      · rw [h]; simp
      · have := spl_le S r _ _ q h
        simp only [List.length_nil, List.length_cons] at this ⊢
        omega
    · have := spl_le S r _ _ q h
      simp only [List.length_append, List.length_cons, List.length_nil] at this ⊢
      omega
  | c :: r, k + 1, acc, q, h => by
    unfold spl at h
    have := spl_le S r _ _ q h
    simp only [List.length_cons]
    omega
theorem split_le (z : Str) : ∀ y ∈ Txt.split z dotS, y.length ≤ z.length := by
  intro y hy
  have h : tl y ∈ spl [46] 0 [] (tl z) := by
    rw [← split_tl]
    exact List.mem_map.mpr ⟨y, hy, rfl⟩
  have := spl_le _ _ _ _ _ h
  rw [len_tl, len_tl z]
  simpa using this
theorem split_no {z : Str} (h : 46 ∉ tl z) : Txt.split z dotS = [z] := by
  apply map_tl_inj
  rw [split_tl, spl_last1 h]
  rfl
theorem split_one {z : Str} {a b : List Nat} (e : tl z = a ++ 46 :: b) (h : 46 ∉ a) :
    (Txt.split z dotS).map tl = a :: spl [46] 0 [] b := by
  rw [split_tl, e]
  exact spl_part1 (s := 46) (S := []) (p := a) (rest := b) (acc := []) h
theorem find_dot {z : Str} {a b : List Nat} (e : tl z = a ++ 46 :: b) (h : 46 ∉ a) : Txt.find z dotS = (a.length : Int) := by
  have ne : tl dotS ≠ [] := by rw [tl_dot]; simp
  have hit : StrLaws.At z dotS z.length a.length := by
    refine (at_iff ne _).mpr ?_
    rw [tl_dot, e, List.drop_left]
    show (List.take 1 (46 :: b) == [46]) = true
    simp
  have miss : ∀ k, k < a.length → ¬ StrLaws.At z dotS z.length k := by
    intro k hk hA
    have q := (at_iff ne k).mp hA
    rw [tl_dot, e, free_of h k hk] at q
    cases q
  rcases find_whole z dotS with ⟨_, h2⟩ | ⟨i, h1, h2, h3⟩
  · exact absurd hit (h2 _)
  · rw [h1]
    by_cases hlt : i < a.length
    · exact absurd h2 (miss i hlt)
    · by_cases hgt : a.length < i
      · exact absurd hit (h3 _ hgt)
      · rw [show i = a.length by omega]
theorem cut_lo {z : Str} {a b : List Nat} (e : tl z = a ++ 46 :: b) : tl (cutS z none (some (a.length : Int))) = a := by
  unfold cutS
  rw [HT.sIx_nat, HT.sIx_none]
  show ((tl z).drop 0).take (min a.length z.length - 0) = a
  rw [len_tl, e, List.drop_zero, Nat.sub_zero, List.length_append, Nat.min_eq_left (Nat.le_add_right _ _), List.take_left]
theorem cut_hi {z : Str} {a b : List Nat} (e : tl z = a ++ 46 :: b) : tl (cutS z (some ((a.length : Int) + 1)) none) = b := by
  unfold cutS
  rw [show ((a.length : Int) + 1) = ((a.length + 1 : Nat) : Int) from rfl, HT.sIx_nat, HT.sIx_none]
  show ((tl z).drop (min (a.length + 1) z.length)).take (z.length - min (a.length + 1) z.length) = b
  rw [len_tl, e]
  have hl : min (a.length + 1) (a ++ 46 :: b).length = a.length + 1 := by
    rw [List.length_append, List.length_cons]; omega
  rw [hl, show a ++ 46 :: b = (a ++ [46]) ++ b by simp]
  have h2 : (a ++ [46]).length = a.length + 1 := by simp
  rw [← h2, List.drop_left, List.length_append, Nat.add_sub_cancel_left, List.take_length]
theorem cnt_app (c : Nat) : ∀ l r : List Nat, cnt c (l ++ r) = cnt c l + cnt c r := cnt_append c
/-- the law's own reading of a path -/
def lawP (z : Str) : Bool := if Txt.count z dotS = 1 then isN (cutS z none (some (Txt.find z dotS))) && isN (cutS z (some (Txt.find z dotS + 1)) none) else false
theorem cnt_nonneg (c : Nat) : ∀ l : List Nat, 0 ≤ cnt c l
  | [] => by rw [cnt_nil]; exact Int.le_refl 0
  | x :: l => by
    have h := cnt_nonneg c l
    rw [cnt_cons]
    split <;> omega
theorem cnt_free {c : Nat} {l : List Nat} (h : c ∉ l) : cnt c l = 0 := cnt_none c l h
theorem cnt_dot : cnt 46 [46] = 1 := by rw [cnt_cons, cnt_nil]; simp
theorem path_law (z : Str) : lawP z = isP z := by
  unfold lawP isP
  rw [show (Str.ofString "." : Str) = dotS from rfl]
  have hc : Txt.count z dotS = cnt 46 (tl z) := by rw [dot_eq]; exact count_cnt z 46
  by_cases h : 46 ∈ tl z
  · obtain ⟨a, b, e, na⟩ := cut_at h
    have c1 : cnt 46 (tl z) = 1 + cnt 46 b := by
      rw [e, show a ++ 46 :: b = a ++ ([46] ++ b) from rfl, cnt_app, cnt_app, cnt_free na, cnt_dot]
      omega
    have sp := split_one e na
    by_cases hb : 46 ∈ b
    · obtain ⟨b1, b2, e2, nb⟩ := cut_at hb
      have c2 : cnt 46 b = 1 + cnt 46 b2 := by
        rw [e2, show b1 ++ 46 :: b2 = b1 ++ ([46] ++ b2) from rfl, cnt_app, cnt_app, cnt_free nb, cnt_dot]
        omega
      have := cnt_nonneg 46 b2
      rw [if_neg (by omega)]
      have sp2 : spl [46] 0 [] b = b1 :: spl [46] 0 [] b2 := by
        rw [e2]
        exact spl_part1 (s := 46) (S := []) (p := b1) (rest := b2) (acc := []) nb
      have hl : (Txt.split z dotS).length ≠ 2 := by
        intro q
        have q2 := congrArg List.length sp
        rw [List.length_map, q, sp2] at q2
        have q3 : (spl [46] 0 [] b2).length = 0 := by
          simp only [List.length_cons] at q2
          omega
        exact spl_ne _ _ _ _ (List.length_eq_zero_iff.mp q3)
      rw [decide_eq_false hl, Bool.false_and]
    · have c2 : cnt 46 b = 0 := cnt_free hb
      rw [if_pos (by omega), find_dot e na]
      have sp2 : spl [46] 0 [] b = [b] := spl_last1 (s := 46) (S := []) (p := b) (acc := []) hb
      have e1 : Txt.split z dotS = [cutS z none (some (a.length : Int)), cutS z (some ((a.length : Int) + 1)) none] := by
        apply map_tl_inj
        rw [sp, sp2]
        show [a, b] = [tl _, tl _]
        rw [cut_lo e, cut_hi e]
      rw [e1]
      simp
  · have c0 : cnt 46 (tl z) = 0 := cnt_free h
    rw [if_neg (by omega), split_no h]
    rfl

/-! ### drawn names -/
def sufS : List Str := ["s", "_", "1", "a"]
theorem near_ok : ∀ r ∈ resv, ∀ x ∈ sufS, isN (r ++ x) = true := by decide +kernel
theorem resv_len : ∀ r ∈ resv, r.length ≤ 6 := by decide +kernel
theorem suf_len : ∀ r ∈ sufS, r.length ≤ 1 := by decide +kernel
theorem resv_no : ∀ r ∈ resv, 95 ∉ tl r := by decide +kernel
theorem let_sgn : ∀ c ∈ tl letS, c ∈ tl sgnS := by decide +kernel
theorem und_sgn : 95 ∈ tl sgnS := by decide +kernel
theorem isN_len {z : Str} (h : isN z = true) : z.length ≤ 8 := by
  unfold isN isW at h
  simp only [Bool.and_eq_true, decide_eq_true_eq] at h
  exact h.1.1
theorem isN_res {z : Str} (h : isN z = true) : z ∉ resv := by
  unfold isN at h
  simp only [Bool.and_eq_true, Bool.not_eq_true', decide_eq_false_iff_not] at h
  exact h.2.2
theorem isN_of {z : Str} {c : Nat} {r : List Nat} (e : tl z = c :: r) (hc : c ∈ tl letS) (hr : ∀ x ∈ r, x ∈ tl sgnS) (hl : r.length ≤ 7) (hn : z ∉ resv) : isN z = true := by
  have h1 : isW z = true := by
    unfold isW
    rw [len_tl, e]
    simp only [Bool.and_eq_true, decide_eq_true_eq, List.length_cons, List.all_cons, List.all_eq_true]
    exact ⟨by omega, let_sgn c hc, hr⟩
  have h2 : fstL z = true := by
    unfold fstL
    rw [e]
    exact decide_eq_true hc
  unfold isN
  rw [h1, h2, decide_eq_false hn]; rfl
theorem cut7 (z : Str) : tl (cutS z none (some 7)) = (tl z).take 7 := by
  unfold cutS
  rw [show HT.sIx z.length z.length (some 7) = min 7 z.length from HT.sIx_nat _ _ 7, HT.sIx_none]
  show ((tl z).drop 0).take (min 7 z.length - 0) = _
  rw [List.drop_zero, Nat.sub_zero, len_tl, List.take_eq_take_iff]
  omega
theorem isN_cut {z : Str} {c : Nat} {r : List Nat} (e : tl z = c :: r) (hc : c ∈ tl letS) (hr : ∀ x ∈ r, x ∈ tl sgnS) : isN (cutS z none (some 7) ++ "_") = true := by
  have e2 : tl (cutS z none (some 7) ++ "_") = c :: (r.take 6 ++ [95]) := by
    rw [tl_append, cut7, e, show tl ("_" : Str) = [95] by decide +kernel]; rfl
  refine isN_of e2 hc (fun x hx => ?_) (by rw [List.length_append, List.length_take]; show min 6 r.length + 1 ≤ 7; omega) fun hm => ?_
  · rcases List.mem_append.mp hx with h | h
    · exact hr x (List.mem_of_mem_take h)
    · rw [List.mem_singleton.mp h]; exact und_sgn
  · exact resv_no _ hm (by rw [e2]; simp)
theorem join_signs : ∀ l : List Nat, tl (Txt.join "" (l.map fun c => (⟨#[c]⟩ : Str))) = l := by
  intro l
  rw [join_eq, tl_join, List.map_map]
  have e : tl ("" : Str) = [] := by decide +kernel
  rw [e]
  have key : ∀ l : List Nat, joinL [] (l.map (tl ∘ fun c => (⟨#[c]⟩ : Str))) = l := by
    intro l
    induction l with
    | nil => rfl
    | cons a r ih =>
      cases r with
      | nil => rfl
      | cons b r =>
        show [a] ++ ([] ++ joinL [] _) = a :: b :: r
        rw [List.nil_append]
        exact congrArg (a :: ·) ih
  exact key l
end Sn

/-! ## Sorted texts without repetition -/
namespace Sn
open PySem PySem.Spec PyProof.Rows L2 TL
def ltS (a b : Str) : Prop := ltCps (tl a) (tl b) = true
theorem lt_irr : ∀ l : List Nat, ltCps l l = false
  | [] => rfl
  | a :: r => by simp [ltCps, lt_irr r]
theorem lt_trans : ∀ {a b c : List Nat}, ltCps a b = true → ltCps b c = true → ltCps a c = true
  | [], [], _, h, _ => by simp [ltCps] at h
  | [], _ :: _, [], _, h => by simp [ltCps] at h
  | [], _ :: _, _ :: _, _, _ => by simp [ltCps]
  | _ :: _, [], _, h, _ => by simp [ltCps] at h
  | _ :: _, _ :: _, [], _, h => by simp [ltCps] at h
  | x :: a, y :: b, z :: c, h, k => by
    simp only [ltCps, Bool.or_eq_true, Bool.and_eq_true, decide_eq_true_eq, beq_iff_eq] at h k ⊢
    rcases h with h | ⟨e, h⟩ <;> rcases k with k | ⟨e2, k⟩
    · exact .inl (by omega)
    · exact .inl (by omega)
    · exact .inl (by omega)
    · exact .inr ⟨by omega, lt_trans h k⟩
theorem lt_tri : ∀ {a b : List Nat}, ltCps a b = false → ltCps b a = false → a = b
  | [], [], _, _ => rfl
  | [], _ :: _, h, _ => by simp [ltCps] at h
  | _ :: _, [], _, h => by simp [ltCps] at h
  | x :: a, y :: b, h, k => by
    simp only [ltCps, Bool.or_eq_false_iff, Bool.and_eq_false_iff, decide_eq_false_iff_not, beq_eq_false_iff_ne] at h k
    have e : x = y := by omega
    subst e
    rw [lt_tri (h.2.resolve_left (by simp)) (k.2.resolve_left (by simp))]
/-- strictly rising -/
abbrev Ris (l : List Str) : Prop := l.Pairwise ltS
theorem ris_of : ∀ (l : List Str), sortedS l = true → l.Nodup → Ris l
  | [], _, _ => .nil
  | [a], _, _ => List.pairwise_singleton _ _
  | a :: b :: r, h, n => by
    have h1 : risingS a (b :: r) = true := h
    unfold risingS at h1
    simp only [Bool.and_eq_true, Bool.not_eq_true'] at h1
    have n2 := List.nodup_cons.mp n
    have ih := ris_of (b :: r) h1.2 n2.2
    have hab : ltS a b := by
      unfold ltS
      cases e : ltCps (tl a) (tl b) with
      | true => rfl
      | false => exact absurd (ext_tl (lt_tri e h1.1)) (fun q => n2.1 (q ▸ List.mem_cons.mpr (.inl rfl)))
    refine List.pairwise_cons.mpr ⟨fun x hx => ?_, ih⟩
    rcases List.mem_cons.mp hx with rfl | hx
    · exact hab
    · exact lt_trans hab ((List.pairwise_cons.mp ih).1 x hx)
theorem ris_eq : ∀ {l r : List Str}, Ris l → Ris r → (∀ z, z ∈ l ↔ z ∈ r) → l = r
  | [], [], _, _, _ => rfl
  | [], b :: r, _, _, h => absurd ((h b).mpr (List.mem_cons.mpr (.inl rfl))) (by simp)
  | a :: l, [], _, _, h => absurd ((h a).mp (List.mem_cons.mpr (.inl rfl))) (by simp)
  | a :: l, b :: r, p, q, h => by
    have p1 := List.pairwise_cons.mp p
    have q1 := List.pairwise_cons.mp q
    have irr : ∀ x : Str, ¬ ltS x x := fun x e => by unfold ltS at e; rw [lt_irr] at e; cases e
    have e : a = b := by
      rcases List.mem_cons.mp ((h a).mp (List.mem_cons.mpr (.inl rfl))) with e | h1
      · exact e
      · rcases List.mem_cons.mp ((h b).mpr (List.mem_cons.mpr (.inl rfl))) with e | h2
        · exact e.symm
        · exact absurd (lt_trans (p1.1 b h2) (q1.1 a h1)) (irr a)
    subst e
    refine congrArg (a :: ·) (ris_eq p1.2 q1.2 fun z => ⟨fun hz => ?_, fun hz => ?_⟩)
    · rcases List.mem_cons.mp ((h z).mp (List.mem_cons.mpr (.inr hz))) with e | h1
      · exact absurd (e ▸ p1.1 z hz) (irr a)
      · exact h1
    · rcases List.mem_cons.mp ((h z).mpr (List.mem_cons.mpr (.inr hz))) with e | h1
      · exact absurd (e ▸ q1.1 z hz) (irr a)
      · exact h1
theorem ris_nodup {l : List Str} (h : Ris l) : l.Nodup := List.Pairwise.imp (fun {a b} q e => by subst e; unfold ltS at q; rw [lt_irr] at q; cases q) h
/-- the keys of a dict whose values do not matter: each once, in the order of their first coming -/
def once (l : List Str) : List Str := l.foldl (fun acc z => if z ∈ acc then acc else acc ++ [z]) []
end Sn

/-! ## Rules of our own: enumerate(tuple), own __len__, __contains__, operators, != -/
namespace Sn
open PySem PySem.Spec PyProof.Rows L2

/-! ### enumerate of a tuple -/
theorem enum_newT (l : Addr) (items : Array Value) (n : Nat) (dct : Option Addr) (sl : Array (Option Value)) :
    Meets (Builtin.«enumerate.__new__» ⟨[.type "enumerate", .ref l], []⟩) (fun _ R s =>
      s.heap.get? l = some { cls := .type "tuple", dict := dct, data := .seq items n, slots := sl } ∧
      R (.ok (.ret (.ref (s.heap.push { cls := .type "tuple_iterator", data := .fields #[.ref l, .int 0 0] }).objs.size)))
        { s with heap := (s.heap.push { cls := .type "tuple_iterator", data := .fields #[.ref l, .int 0 0] }).push { cls := .type "enumerate", data := .fields #[.none, .bool false, .ref s.heap.objs.size, rawInt 0, .none, .none] } }) :=
  .of_wp fun prog w A R s h => by
    obtain ⟨hp, g, d, tk, os⟩ := s
    obtain ⟨hl, h⟩ := h
    have hsub := sub_enumerate
    have hT : Heap.IsTuple (Shared.heap ⟨hp, g, d, tk, os⟩) l items := ⟨_, hl, rfl, n, rfl⟩
    wp_walk using AutoSeq1.wpAny_loadPart' hl
    refine wpAny_stack_any fun st => wpAny_pure ?_
    split
    · rename_i c _ _ _ _ _
      cases (c == Value.type "enumerate") <;> (wp_walk using AutoSeq1.wpAny_loadPart' hl, wpAny_pyIter_tuple hT; exact ⟨_, rfl, h⟩)
    · wp_walk using AutoSeq1.wpAny_loadPart' hl, wpAny_pyIter_tuple hT
      exact ⟨_, rfl, h⟩
section
variable {prog : Program} {w : World} {A : Around} {E : Value → Shared → Prop} {s : Shared}
theorem call_enumT {l : Addr} {items : Array Value} {Q : Value → Shared → Prop} (hL : s.heap.IsTuple l items)
    (h : ∀ h', IsEnum h' (s.heap.objs.size + 1) s.heap.objs.size 0 .none → h'.IsTupleIter s.heap.objs.size l 0 →
      h'.objs.size = s.heap.objs.size + 2 → (∀ b o, s.heap.get? b = some o → h'.get? b = some o) →
      Q (.ref (s.heap.objs.size + 1)) { s with heap := h' }) :
    wpAny (model prog w) A (call (.type "enumerate") [.ref l]) Q E s := by
  obtain ⟨⟨c, dct, dt, sl⟩, hl, hc, n, hd⟩ := hL
  have hc2 : c = .type "tuple" := hc
  have hd2 : dt = .seq items n := hd
  subst hc2 hd2
  refine callType_new F.called_enumerate (by decide) (F.typeCall_enumerate_1 _) (F.newCall_enumerate_1 _)
    (fun obj => F.args_object_init_2 obj _) F.entry_enumerate_new (enum_newT l items n dct sl) ⟨hl, ?_⟩
  generalize eo : ({ cls := .type "tuple_iterator", data := .fields #[.ref l, .int 0 0] } : Obj) = o1
  generalize ee : ({ cls := .type "enumerate", data := .fields #[.none, .bool false, .ref s.heap.objs.size, rawInt 0, .none, .none] } : Obj) = o2
  have hz : (s.heap.push o1).objs.size = s.heap.objs.size + 1 := Heap.size_push ..
  have g2 : ((s.heap.push o1).push o2).get? (s.heap.objs.size + 1) = some o2 := by
    have q := Heap.get?_push_size (s.heap.push o1) (o := o2) (by rw [← ee]; rfl)
    rw [hz] at q
    exact q
  have g1 : ((s.heap.push o1).push o2).get? s.heap.objs.size = some o1 :=
    Heap.get?_push_of_some _ (Heap.get?_push_size _ (by rw [← eo]; rfl))
  show _ ∧ _
  rw [hz]
  refine ⟨⟨o2, g2, by rw [← ee]⟩, h _ ?_ ⟨o1, g1, by rw [← eo], by rw [← eo]; rfl⟩ (by rw [Heap.size_push, hz]) fun b o q => Heap.get?_push_of_some _ (Heap.get?_push_of_some _ q)⟩
  show _ = some _
  rw [g2, ← ee]
end
def Iet (K : PySem.W.Frag) (a : Addr) : It :=
  ⟨fun i H => ∃ (xs : List V) (x : V), SqT K H a xs ∧ xs[i]? = some x,
   fun i H v H' => ∃ T x, v = .ref T ∧ H T = none ∧ H' = upd H T (.tup [.int (i : Nat), x]) ∧ ∀ xs, SqT K H a xs → xs[i]? = some x,
   fun i H => ∃ xs : List V, SqT K H a xs ∧ xs.length ≤ i⟩
theorem turn_enumT {P : Program} {w : World} {K : PySem.W.Frag} {elts : List Expr} {kk : Nat} {tpos : Pos} (a e it : Addr) :
    Turn P w K (.Tuple elts kk tpos) (Iet K a) [e, it] e (fun i h => (∃ old, IsEnum h e it ((i : Nat) : Int) old) ∧ h.IsTupleIter it a i ∧ e ≠ it ∧ a ≠ it ∧ e ≠ a) where
  mem := by simp
  obj := fun i h st b hb => by
    obtain ⟨⟨old, he⟩, ⟨o, ho, hc, hd⟩, _⟩ := st
    have e' : b = e ∨ b = it := by simpa using hb
    rcases e' with rfl | rfl
    · exact ⟨_, he, fun v q => nomatch q⟩
    · exact ⟨o, ho, fun v q => by rw [hd] at q; cases q⟩
  keep := fun i h h' st k => let ⟨⟨old, he⟩, hi, hne⟩ := st; ⟨⟨old, k e (by simp) _ he⟩, hi.at fun o q => k it (by simp) o q, hne⟩
  item := by
    intro X hP hw hK hc i pins s σ H E I hf st hg
    subst hP hw hK
    obtain ⟨⟨old, he⟩, hit, hne, hai, hea⟩ := st
    obtain ⟨xs, x, hq, hx⟩ := hg
    obtain ⟨its, rv, p, hz⟩ := I.tuple hq
    obtain ⟨u, hu, ru⟩ := rv.get hx
    have hel : e < s.heap.objs.size := Heap.lt_size he
    have hil : it < s.heap.objs.size := by obtain ⟨_, q, _⟩ := hit; exact Heap.lt_size q
    have hlt : i < its.toArray.size := by
      have := (List.getElem?_eq_some_iff.mp hu).1
      simpa using this
    have pT : s.heap.IsTuple a its.toArray := p
    refine wpAny_pyNext_enum_itemD (Draws.tuple (A := X.A.in1) (I.ok.hd hc) it a hai its.toArray) he ⟨hit, pT⟩ hlt hne (by simp [hne, hea]) ?_
    intro u2 h' tk hu2 ho st2 hT hsz hk
    have eu : u2 = u := by
      have q : its.toArray[i]? = some u := by simpa using hu
      exact Option.some.inj (hu2.symm.trans q)
    subst eu
    refine ⟨_, rfl, wpAny_letOwnedTupleGo_enum (s := { s with heap := h', toks := tk + 1 }) ho fun h2 he' sb => ?_⟩
    have hT2 : h2.get? s.heap.objs.size = some { cls := .type "tuple", data := .seq #[.int i tk, u2] } := (sb.2 _ (Nat.ne_of_gt hel)).trans hT
    have new : ObjOk X.prog X.w (upd H s.heap.objs.size (.tup [.int (i : Nat), x])) h2 s.heap.objs.size (.tup [.int (i : Nat), x]) :=
      ⟨by show 2 ≤ sizeLine; decide, [.int i tk, u2], .cons ⟨_, rfl⟩ (.cons ru .nil), ⟨_, hT2, rfl, _, rfl⟩⟩
    have I1 : Inv X pins σ (upd H s.heap.objs.size (.tup [.int (i : Nat), x])) { s with heap := h2, toks := tk + 1 } :=
      I.turnedNew (ch := [e, it]) (fun b ob hb q => (sb.2 b (fun z => hb (by simp [z]))).trans (hk b ob (fun z => hb (by simp [z])) (fun z => hb (by simp [z])) q)) hf (Nat.le_refl _) new
    refine ⟨.ref s.heap.objs.size, _, I1, rfl, ⟨_, x, rfl, I.hok.fresh (Nat.le_refl _), rfl, fun ys hy => by rw [I.tuple_inj hy hq]; exact hx⟩, ⟨⟨u2, ?_⟩, st2.1.at fun o q => (sb.2 it (Ne.symm hne)).trans q, hne, hai, hea⟩, fun b hb => ?_⟩
    · have e1 : ((i + 1 : Nat) : Int) = (i : Int) + 1 := by omega
      rw [e1]; exact he'
    · have e' : b = e ∨ b = it := by simpa using hb
      have hb' : b < s.heap.objs.size := by rcases e' with rfl | rfl <;> assumption
      rw [upd_ne (Nat.ne_of_lt hb')]
      exact (hf b hb).1
  done := by
    intro X hP hw hK hc i pins s σ H E I hf st hg
    subst hP hw hK
    obtain ⟨⟨old, he⟩, hit, hne, hai, hea⟩ := st
    obtain ⟨xs, hq, hx⟩ := hg
    obtain ⟨its, rv, p, hz⟩ := I.tuple hq
    obtain ⟨f0, f1, f2, f3, f4, f5⟩ := hf it (by simp)
    have hl := rv.length
    have pT : s.heap.IsTuple a its.toArray := p
    have hT : s.TypeIs (.ref e) "enumerate" := ⟨_, he, rfl⟩
    unfold pyNext
    refine wpAny_bind (wpAny_attempt (wpAny_callSpecial?_slot (name := Str.ofString "__next__") hT F.slot_enumerate_next
      (wpAny_call_entry F.slot_enumerate_next hT F.entry_enumerate_next ?_ (F.args_enumerate_next_1 _))))
    show wpAny _ _ (field (.ref e) 2 >>= _) _ _ _
    refine wpAny_bind (wpAny_field he rfl (x := .ref it) rfl (wpAny_bind (wpAny_nextOf_tuple_end (I.ok.hd hc) hit pT (by simp; omega) ?_)))
    intro h' y he' hx'
    obtain ⟨o, ho, hco⟩ := hx'
    refine wpAny_bind (wpAny_isInstance (T := "StopIteration") (b := true) ⟨o, ho, hco⟩ isSubtype_stop ?_)
    exact wpAny_pure ⟨rfl, I.turned (t' := s.toks) (fun b o hb q => he' b o hb q) f0 f1 f3 f4 f5⟩
  self := fun A i s Q E st h => let ⟨⟨_, he⟩, _⟩ := st; wpAny_pyIter_enum he h

def iEnumT (K : PySem.W.Frag) (ta : TA) : TI := fun σ H R => ta σ H fun vs H1 => ∃ a xs, vs = [.ref a] ∧ SqT K H1 a xs ∧ R (Iet K a) H1
theorem pi_enumT {X : Cx} {e : Expr} {ta : TA} {p pos tpos : Pos} {elts : List Expr} {kk : Nat} (hg : Gl X "enumerate") (hm : X.mg "enumerate" = none)
    (ha : PA X [e] ta) (hs : starEach [e] X.env = [(false, eval e X.env)] := by rfl) :
    PI X (.Tuple elts kk tpos) (.Call (.Name "enumerate" p) [e] [] pos) (iEnumT X.K ta) := by
  refine ⟨fun pins s σ H R I h => ?_⟩
  refine Call_ (ld_blt I hg hm boot_enumerate (PyProof.Rows.callWith_type1 (thn (ha.run pos pins s σ H _ I h) ?_) hs rfl))
  rintro us s1 ⟨vs, H1, I1, r1, a, xs, rfl, hq, q⟩
  match us, r1 with
  | [u], .cons r .nil =>
    cases r
    obtain ⟨its, rv, pt, hz⟩ := I1.tuple hq
    have alt : a < s1.heap.objs.size := by
      obtain ⟨o, ho, _⟩ := pt
      exact Heap.lt_size ho
    refine call_enumT pt fun h' he hit hsz hk => wpAny_pyIter_enum he ?_
    have I2 : Inv X pins σ H1 { s1 with heap := h' } := I1.kept (t' := s1.toks) hk
    refine ⟨s1.heap.objs.size + 1, [s1.heap.objs.size + 1, s1.heap.objs.size], _, _, H1, rfl, I2, turn_enumT a (s1.heap.objs.size + 1) s1.heap.objs.size,
      ⟨⟨.none, he⟩, hit, Nat.succ_ne_self _, Nat.ne_of_lt alt, Nat.ne_of_gt (Nat.lt_succ_of_lt alt)⟩, fun b hb => ?_, q⟩
    have hle : s1.heap.objs.size ≤ b := by
      have e' : b = s1.heap.objs.size + 1 ∨ b = s1.heap.objs.size := by simpa using hb
      rcases e' with rfl | rfl
      · exact Nat.le_add_right _ _
      · exact Nat.le_refl _
    exact I1.fpOk hle (I1.hok.fresh hle)
theorem walk_enumT {K : PySem.W.Frag} {a : Addr} {xs : List V} : Walk (Iet K a) xs.length (fun H => SqT K H a xs) (YPair (fun i => some (.int (i : Nat))) (fun i => xs[i]?)) := by
  refine ⟨fun i _ hi q => ⟨xs, xs[i], q, by simp [hi]⟩, fun _ q => ⟨xs, q, Nat.le_refl _⟩, fun i H v H' _ q y => ?_⟩
  obtain ⟨T, x, h1, h2, h3, h4⟩ := y
  exact ⟨T, .int (i : Nat), x, h1, h2, h3, rfl, h4 xs q⟩

/-! ### an own class's special methods -/
section
variable {X : Cx} {CX : CXT} {k : Nat} {f C : Addr} {fd : FuncData} {ps : List Str} {sp : Sp} {E : XK}
/-- an instance of C stands there -/
theorem inst_at {pins : List (Addr × Obj)} {σ : L2.St} {H : Hp} {s : Shared} {a dx : Addr} {fs : List (Str × V)} (I : Inv X pins σ H s) (h : H a = some (.ins C dx fs)) :
    ∃ ox od, PySem.W.InstAt s.heap a ox C od := by
  obtain ⟨mA, J, _⟩ := ins_get I.hok h
  obtain ⟨od, J, _⟩ := J.look
  exact ⟨_, _, J⟩
/-- x in o, by an own __contains__ -/
theorem own_in (F : FnOk X.prog X.w X.K X.mg X.base CX k f fd ps sp) (hr : Room k X.A) (hs : PySem.W.findIn X.K (.ref C) "__contains__" = some (some (.ref f)))
    (hf : PySem.W.isFn X.K (.ref f) = true) (hb : Binds X.K fd ps []) (hx : Passes CX X E) :
    OpR X (compareOp .In) (fun x y H Q => ∃ a dx fs, y = .ref a ∧ H a = some (.ins C dx fs) ∧ sp [y, x] H (fun v H' => ∃ b, v = .bl b ∧ Q (.bl b) H') E) := by
  intro pins s σ H x y v u Q I rx ry h
  obtain ⟨a, dx, fs, rfl, ha, q⟩ := h
  cases ry
  obtain ⟨ox, od, J⟩ := inst_at I ha
  obtain ⟨m, hF⟩ := I.fr
  refine PySem.W.in_K hF I.ok.mod.kin J hs hf ?_
  refine wpAny_mono (run_fn (us := [.ref a, v]) (vs := [.ref a, x]) F hr hb .nil hx I (.cons rfl (.cons rx .nil)) q) ?_ fun _ _ z => z
  rintro r s' ⟨z, H', I', rz, b, rfl, qq⟩
  cases rz
  exact wpAny_truthy_bool ⟨.bl b, H', I', rfl, qq⟩
/-- o op p, both of C, by an own operator -/
theorem own_bin {op : Operator} (F : FnOk X.prog X.w X.K X.mg X.base CX k f fd ps sp) (hr : Room k X.A) (hc : PySem.W.selfFirst X.K C = true)
    (hs : PySem.W.findIn X.K (.ref C) (PySem.dunder op.info.2) = some (some (.ref f))) (hf : PySem.W.isFn X.K (.ref f) = true) (hb : Binds X.K fd ps []) (hx : Passes CX X E) :
    OpR X (binaryOp op) (fun x y H Q => ∃ a b dx dy fs gs, x = .ref a ∧ y = .ref b ∧ H a = some (.ins C dx fs) ∧ H b = some (.ins C dy gs) ∧ sp [x, y] H Q E) := by
  intro pins s σ H x y v u Q I rx ry h
  obtain ⟨a, b, dx, dy, fs, gs, rfl, rfl, ha, hb', q⟩ := h
  cases rx
  cases ry
  obtain ⟨ox, od, J⟩ := inst_at I ha
  obtain ⟨oy, oe, J'⟩ := inst_at I hb'
  obtain ⟨m, hF⟩ := I.fr
  refine PySem.W.binop_K hF I.ok.mod.kin J J'.type hc hs hf ?_
  refine wpAny_mono (run_fn (us := [.ref a, .ref b]) (vs := [.ref a, .ref b]) F hr hb .nil hx I (.cons rfl (.cons rfl .nil)) q) ?_ fun _ _ z => z
  rintro r s' ⟨z, H', I', rz, qq⟩
  have fin : EP X pins σ Q r s' := ⟨z, H', I', rz, qq⟩
  cases r with
  | notImplemented => cases z <;> first | (cases rz; done) | (obtain ⟨t, e⟩ := rz; cases e)
  | _ => exact fin
/-- what runs one level deeper -/
theorem run_in1 {pins : List (Addr × Obj)} {σ : L2.St} {H : Hp} {s : Shared} {Q : VK} {us : List Value} {vs : List V} (F : FnOk X.prog X.w X.K X.mg X.base CX k f fd ps sp) (hr : Room (k + 1) X.A)
    (hb : Binds X.K fd ps []) (hx : Passes CX X E) (I : Inv X pins σ H s) (r : Vals vs us) (h : sp vs H Q E) :
    wpAny (model X.prog X.w) X.A.in1 (call (.ref f) us) (EP X pins σ Q) X.xe s := by
  have hl : (us ++ []).length = ps.length := by rw [List.append_nil, ← r.length]; exact F.len _ _ _ _ h
  have hbi := hb s us I.kIn hl
  rw [List.append_nil] at hbi
  refine wpAny_call (codeAny_mono (F.run X.A.in1 X.stack s H ⟨us, []⟩ us vs Q E hr.in1 I.env0.in1 hbi r h) ?_)
  intro r s' hq
  match r, hq with
  | .error e, hq => exact hx pins σ H s e s' I hq
  | .ok (.ret u), hq => exact I.after hq
  | .ok .next, hq => exact False.elim hq
  | .ok .brk, hq => exact False.elim hq
  | .ok .cont, hq => exact False.elim hq
/-- len(o), by an own __len__ -/
theorem own_len (F : FnOk X.prog X.w X.K X.mg X.base CX k f fd ps sp) (hr : Room (k + 1) X.A) (hs : PySem.W.findIn X.K (.ref C) "__len__" = some (some (.ref f)))
    (hf : PySem.W.isFn X.K (.ref f) = true) (hb : Binds X.K fd ps []) (hx : Passes CX X E) :
    CallR X (.builtin "len") (fun xs H Q => ∃ a dx fs, xs = [.ref a] ∧ H a = some (.ins C dx fs) ∧ sp [.ref a] H (fun v H' => ∃ n : Nat, n < 2 ^ 62 ∧ v = .int n ∧ Q (.int n) H') E) := by
  intro pins s σ H xs us Q I r h
  obtain ⟨a, dx, fs, rfl, ha, q⟩ := h
  obtain ⟨u, rfl, ru⟩ := vals1 r
  cases ru
  obtain ⟨ox, od, J⟩ := inst_at I ha
  obtain ⟨m, hF⟩ := I.fr
  refine PySem.W.len_K hF I.ok.mod.kin J hs hf ?_
  refine wpAny_mono (run_in1 (us := [.ref a]) (vs := [.ref a]) F hr hb hx I (.cons rfl .nil) q) ?_ fun _ _ z => z
  rintro r s' ⟨z, H', I', rz, n, hn, rfl, qq⟩
  obtain ⟨t, rfl⟩ := rz
  exact ⟨⟨by omega, by omega⟩, .int n, H', I'.tok _, ⟨_, rfl⟩, qq⟩
/-- o == p, both of C, by an own __eq__ -/
theorem own_eq (F : FnOk X.prog X.w X.K X.mg X.base CX k f fd ps sp) (hr : Room k X.A) (hs : PySem.W.findIn X.K (.ref C) "__eq__" = some (some (.ref f)))
    (hf : PySem.W.isFn X.K (.ref f) = true) (hb : Binds X.K fd ps []) (hx : Passes CX X E) :
    OpR X (compareOp .Eq) (fun x y H Q => ∃ a b dx dy fs gs, x = .ref a ∧ y = .ref b ∧ H a = some (.ins C dx fs) ∧ H b = some (.ins C dy gs) ∧ sp [x, y] H (fun v H' => ∃ b, v = .bl b ∧ Q (.bl b) H') E) := by
  intro pins s σ H x y v u Q I rx ry h
  obtain ⟨a, b, dx, dy, fs, gs, rfl, rfl, ha, hb', q⟩ := h
  cases rx
  cases ry
  obtain ⟨ox, od, J⟩ := inst_at I ha
  obtain ⟨oy, oe, J'⟩ := inst_at I hb'
  obtain ⟨m, hF⟩ := I.fr
  show wpAny (model X.prog X.w) X.A (richCompare .Eq (.ref a) (.ref b)) (EP X pins σ Q) X.xe s
  refine PySem.W.cmp_K (op := .Eq) (tb := .ref C) hr.units0 hF I.ok.mod.kin J J'.type (by simp [PySem.W.notFirst]) hs hf ?_
  refine wpAny_mono (run_fn (us := [.ref a, .ref b]) (vs := [.ref a, .ref b]) F hr hb .nil hx I (.cons rfl (.cons rfl .nil)) q) ?_ fun _ _ z => z
  rintro r s' ⟨z, H', I', rz, c, rfl, qq⟩
  cases rz
  exact ⟨.bl c, H', I', rfl, qq⟩
/-- o != p, both of C, by an own __eq__ and no own __ne__ -/
theorem own_ne (F : FnOk X.prog X.w X.K X.mg X.base CX k f fd ps sp) (hr : Room (k + 1) X.A) (hs : PySem.W.findIn X.K (.ref C) "__eq__" = some (some (.ref f)))
    (hn : PySem.W.findIn X.K (.ref C) "__ne__" = some (some (.builtin "object.__ne__"))) (hm : PySem.W.mroIn X.K C (.type "object") = some true)
    (hf : PySem.W.isFn X.K (.ref f) = true) (hb : Binds X.K fd ps []) (hx : Passes CX X E) :
    OpR X (compareOp .NotEq) (fun x y H Q => ∃ a b dx dy fs gs, x = .ref a ∧ y = .ref b ∧ H a = some (.ins C dx fs) ∧ H b = some (.ins C dy gs) ∧ sp [x, y] H (fun v H' => ∃ b, v = .bl b ∧ Q (.bl (!b)) H') E) := by
  intro pins s σ H x y v u Q I rx ry h
  obtain ⟨a, b, dx, dy, fs, gs, rfl, rfl, ha, hb', q⟩ := h
  cases rx
  cases ry
  obtain ⟨ox, od, J⟩ := inst_at I ha
  obtain ⟨oy, oe, J'⟩ := inst_at I hb'
  have KX := I.kIn
  have hu1 : X.A.units + 1 < cLine := by have := hr.un; omega
  have entry : ∀ (R : Fin → Shared → Prop), (∀ c s', EP X pins σ Q (.bool (!c)) s' → R (.done (.ret (.bool (!c)))) s') →
      wpAny (model X.prog X.w) X.A.in1 (Builtin.«object.__ne__» ⟨[.ref a, .ref b], []⟩) R X.xe s := by
    intro R hR
    unfold Builtin.«object.__ne__»
    refine wpAny_bind (m := slotArgs "__ne__" 1 _) (wpAny_pure ?_)
    refine wpAny_bind (wpAny_cRoomFor hu1 ?_)
    refine wpAny_bind (PySem.W.ifBound_K KX J hs hf ?_)
    refine wpAny_mono (run_in1 (us := [.ref a, .ref b]) (vs := [.ref a, .ref b]) F hr hb hx I (.cons rfl (.cons rfl .nil)) q) ?_ fun _ _ z => z
    rintro r s' ⟨z, H', I', rz, c, rfl, qq⟩
    cases rz
    exact wpAny_bind (wpAny_truthy_bool (wpAny_pure (hR c s' ⟨.bl (!c), H', I', rfl, qq⟩)))
  have hobj : PySem.W.Looks (model X.prog X.w) s.heap (isInstance (.ref a) (.type "object")) true := J.type.andThen (PySem.W.looks_mroIn KX hm)
  have call2 : ∀ (R : Value → Shared → Prop), (∀ c s', EP X pins σ Q (.bool (!c)) s' → R (.bool (!c)) s') →
      wpAny (model X.prog X.w) X.A (call (.builtin "object.__ne__") [.ref a, .ref b]) R X.xe s := by
    intro R hR
    refine wpAny_call (codeAny_call_builtin PySem.F.cmp_object.ne.plain PySem.F.cmpEntry_ne ?_)
    refine PySem.W.check_slot PySem.F.cmpKind_ne PySem.F.cmpSplit_ne hobj (PySem.F.cmpArgs_ne _ _) ?_
    exact entry _ fun c s' h => hR c s' h
  show wpAny (model X.prog X.w) X.A (richCompare .NotEq (.ref a) (.ref b)) (EP X pins σ Q) X.xe s
  unfold richCompare
  simp only [oneThing_ref]
  refine wpAny_holding (wpAny_bind (wpAny_cRoomFor (Nat.lt_of_succ_lt hu1) ?_))
  rw [cmpInfo_NotEq]
  dsimp only
  refine wpAny_bind (J.type.here (wpAny_bind (J'.type.here ?_)))
  rw [show (Value.ref C != Value.ref C) = false from by simp]
  simp only [Bool.false_eq_true, if_false]
  refine wpAny_bind (wpAny_pure ?_)
  simp only [Bool.false_eq_true, if_false]
  refine wpAny_bind ?_
  simp only [tryCompare]
  refine wpAny_bind ?_
  simp only [callSpecialIfBound?, bindSpecialIfBound?]
  refine wpAny_holding (wpAny_bind (wpAny_bind (wpAny_bind (J.type.here ((PySem.W.looks_findIn KX hn).here ?_)))))
  simp only [PySem.F.cmp_object.ne.bind]
  refine wpAny_bind (wpAny_askSetting (wpAny_ite ?_))
  have fin : ∀ (R : Option Value → Shared → Prop), (∀ c s', EP X pins σ Q (.bool (!c)) s' → R (some (.bool (!c))) s') →
      wpAny (model X.prog X.w) X.A (call (.builtin "object.__ne__") ([.ref a] ++ [.ref b]) >>= fun v => pure (some v)) R X.xe s :=
    fun R hR => wpAny_bind (call2 _ fun c s' h => wpAny_pure (hR c s' h))
  have last : ∀ (R : Option Value → Shared → Prop), (∀ c s', EP X pins σ Q (.bool (!c)) s' → R (some (.bool (!c))) s') →
      wpAny (model X.prog X.w) X.A (do let z ← pure (Value.builtin "object.__ne__", [Value.ref a]); pure (some z)) (fun r s' =>
        wpAny (model X.prog X.w) X.A (match r with
          | some (g, first) => do let z ← call g (first ++ [Value.ref b]); pure (some z)
          | _ => pure none) R X.xe s') X.xe s := fun R hR => wpAny_bind (wpAny_pure (wpAny_pure (fin R hR)))
  split
  · exact last _ fun c s' h => wpAny_pure (wpAny_pure h)
  · exact wpAny_tryCatch (last _ fun c s' h => wpAny_pure (wpAny_pure h))
end
end Sn

/-! ## Rules of our own: C(), C(*xs), cls(*xs), C.m(), o.m(k = v) -/
namespace Sn
open PySem PySem.Spec PyProof.Rows L2
section
variable {X : Cx} {CX : CXT} {k i : Nat} {f C : Addr} {fd : FuncData} {ps : List Str} {sp : Sp} {E : XK} {x m : Str} {e o : Expr} {es : List Expr} {te ta : TE} {t : TA} {p sp_ pos apos : Pos}
/-- C(), __init__ with a star -/
theorem pe_makeR0 (M : Mk X.K C f) (F : FnR X.prog X.w X.K X.mg X.base CX k f sp) (hr : Room (k + 1) X.A) (hg : Gl X x) (hm : X.mg x = some (.ref C)) (hx : Passes CX X E)
    (hdb : (x == ("__debug__" : Str)) = false := by decide) : PE X (.Call (.Name x p) [] [] pos) (StX.tMakeR C sp E tNil) :=
  ⟨fun pins s σ H Q I h => wpAny_Call_Name_kw (ld_glob I hg hm (PySem.W.callWith_K0 I.kIn M.kp (StX.run_makeR (us := []) M F hr hx I .nil h)) hdb)⟩
/-- C(*xs): xs a tuple or a list -/
def tMakeS (K : PySem.W.Frag) (C : Addr) (sp : Sp) (E : XK) (te : TE) : TE := fun σ H Q => te σ H fun y H1 => ∃ a xs, y = V.ref a ∧ (SqT K H1 a xs ∨ SqL K H1 a xs) ∧
  ∀ x dx, H1 x = none → H1 dx = none → dx ≠ x → sp (V.ref x :: xs) (upd (upd H1 dx (.own x)) x (.ins C dx [])) (fun v H2 => v = .non ∧ Q (.ref x) H2) E
theorem pe_makeS (M : Mk X.K C f) (F : FnR X.prog X.w X.K X.mg X.base CX k f sp) (hr : Room (k + 1) X.A) (hg : Gl X x) (hm : X.mg x = some (.ref C)) (hx : Passes CX X E) (he : PE X e te)
    (hdb : (x == ("__debug__" : Str)) = false := by decide) (hst : starEach [.Starred e sp_] X.env = [(true, eval e X.env)] := by rfl) :
    PE X (.Call (.Name x p) [.Starred e sp_] [] pos) (tMakeS X.K C sp E te) := by
  refine ⟨fun pins s σ H Q I h => wpAny_Call_Name_kw (ld_glob I hg hm ?_ hdb)⟩
  refine PySem.W.callWith_S (h₀ := X.base) I.ok.mod.kin M.kp (thn (he.run pins s σ H _ I h) ?_) hst
  rintro v s1 ⟨y, H1, I1, ry, a, xs, rfl, hxs, q⟩
  cases ry
  exact StX.star_any I1 hxs fun us s2 I2 rv => ⟨I2.kIn, StX.run_makeR M F hr hx I2 rv q⟩
/-- cls(*xs), cls a name of the def that holds the class C -/
theorem pe_clsS (M : Mk X.K C f) (F : FnR X.prog X.w X.K X.mg X.base CX k f sp) (hr : Room (k + 1) X.A) (hN : X.N[i]? = some x) (hv : Vis X.env.scope x) (hx : Passes CX X E) (he : PE X e te)
    (hdb : (x == ("__debug__" : Str)) = false := by decide) (hcd : (x == ("__classdict__" : Str)) = false := by decide) (hst : starEach [.Starred e sp_] X.env = [(true, eval e X.env)] := by rfl) :
    PE X (.Call (.Name x p) [.Starred e sp_] [] pos) (fun σ H Q => σ[i]? = some (some (.ref C)) ∧ tMakeS X.K C sp E te σ H Q) := by
  refine ⟨fun pins s σ H Q I h => ?_⟩
  obtain ⟨h1, h2⟩ := h
  refine Call_ (thn ((pe_var (pos := p) hN hv hdb hcd).run pins s σ H (fun v H' => v = .ref C ∧ H' = H) I ⟨_, h1, rfl, rfl⟩) ?_) (by rfl)
  rintro u s1 ⟨y, H1, I1, ry, rfl, rfl⟩
  cases ry
  refine PySem.W.callWith_S (h₀ := X.base) I1.ok.mod.kin M.kp (thn (he.run pins s1 σ _ _ I1 h2) ?_) hst
  rintro v s2 ⟨y, H2, I2, ry, a, xs, rfl, hxs, q⟩
  cases ry
  exact StX.star_any I2 hxs fun us s3 I3 rv => ⟨I3.kIn, StX.run_makeR M F hr hx I3 rv q⟩
/-- C.m(), m a classmethod -/
theorem pe_cmeth0 {mc : Value} {q g : Addr} {pl : Sem Bool} (he : PE X o ta) (r : ClX.CRead X.K C mc) (c : ClX.CMet X.K C mc m q g) (F : FnR X.prog X.w X.K X.mg X.base CX k g sp) (hr : Room k X.A) (hx : Passes CX X E)
    (ht : eval (.Call (.Attribute o m apos) [] [] pos) X.env = (do
      let ov ← eval o X.env
      standAt apos.atName
      let (f, first) ← holding [ov] (getMethod ov m pl)
      callWith pos f first (backTo pos (starEach [] X.env)) (backToKw pos (keywordEach [] X.env))) := by rfl) :
    PE X (.Call (.Attribute o m apos) [] [] pos) (ClX.tCMeth C sp E ta tNil) := by
  refine ⟨fun pins s σ H Q I h => ?_⟩
  refine PySem.W.methodCall_KW (pl := pl) (thn (he.run pins s σ H _ I h) ?_) ht
  rintro u s1 ⟨y, H1, I1, ry, rfl, z⟩
  cases ry
  refine ClX.getmethcm_ok I1 r c fun s2 I2 => ?_
  exact PySem.W.callWith_M0 (first := []) (K := X.K) ⟨ClX.pin_at I2, I2.kIn⟩ c.fi (ClX.run_cm (us := []) F hr hx I2 .nil z)
/-- o.m(k = v), keywords alone -/
def tMethK (C : Addr) (m : Str) (sp : Sp) (gV : List V → List V → List V) (E : XK) (ta : TE) (tk : TA) : TE := fun σ H Q => ta σ H fun x H1 => ∃ a dx fs, x = .ref a ∧ H1 a = some (.ins C dx fs) ∧ fs.lookup m = none ∧
  tk σ H1 fun zs H2 => sp (gV [x] zs) H2 Q E
theorem pe_methK0 {pl : Sem Bool} {kws : List Keyword} {tk : TA} {ks : List Str} {g : List Value → List Value → List Value} {gV : List V → List V → List V} (he : PE X o ta) (c : Cls X.K C) (hm : Meth X.K C m f)
    (F : FnOk X.prog X.w X.K X.mg X.base CX k f fd ps sp) (hr : Room k X.A) (hb : KBinds X.K fd ps ks g gV) (hx : Passes CX X E) (hkw : PK X kws tk)
    (hall : (backToKw pos (keywordEach kws X.env)).all (·.1.isSome) = true := by rfl) (hks : (backToKw pos (keywordEach kws X.env)).filterMap (·.1) = ks := by rfl)
    (hpl : (backToKw pos (keywordEach kws X.env)).any (·.1.isNone) = false := by rfl)
    (ht : eval (.Call (.Attribute o m apos) [] kws pos) X.env = (do
      let ov ← eval o X.env
      standAt apos.atName
      let (f, first) ← holding [ov] (getMethod ov m pl)
      callWith pos f first (backTo pos (starEach [] X.env)) (backToKw pos (keywordEach kws X.env))) := by rfl) :
    PE X (.Call (.Attribute o m apos) [] kws pos) (tMethK C m sp gV E ta tk) := by
  refine ⟨fun pins s σ H Q I h => ?_⟩
  refine PySem.W.methodCall_KW (pl := pl) (thn (he.run pins s σ H _ I h) ?_) ht
  rintro u s1 ⟨y, H1, I1, ry, a, dx, fs, rfl, ea, l, q⟩
  cases ry
  refine getmeth_ok I1 ea c hm l ?_
  refine PySem.W.callWith_KW0 (first := [.ref a]) (h₀ := X.base) I.ok.mod.kin hm.kp hall (thn (hkw.run pos pins s1 σ H1 _ I1 q) ?_) hpl
  rintro ws s2 ⟨zs, H2, I2, rz, q2⟩
  refine ⟨I2.kIn, ?_⟩
  rw [hks]
  exact run_fnk (us := [.ref a]) (vs := [.ref a]) F hr hb hx I2 (.cons rfl .nil) rz q2
/-- e.f, where the knowledge is named (in a comprehension) -/
theorem pe_fldK {K : PySem.W.Frag} {f : Str} (he : PE X e te) (hb : attributeBase e f X.env (eval e X.env) = eval e X.env := by rfl) (hK : X.K = K := by rfl) : PE X (.Attribute e f pos) (tFld K te f) := by
  subst hK
  exact pe_fld he hb
theorem op_in_seqK {K : PySem.W.Frag} (hK : X.K = K := by rfl) : OpR X (compareOp .In) (rIn K false) := by
  subst hK
  exact op_in_seq
theorem op_notIn_seqK {K : PySem.W.Frag} (hK : X.K = K := by rfl) : OpR X (compareOp .NotIn) (rIn K true) := by
  subst hK
  exact op_notIn_seq
theorem op_eqDK {K : PySem.W.Frag} (hu : X.A.units + 64 < cLine) (hK : X.K = K := by rfl) : OpR X (compareOp .Eq) (rEqD K) := by
  subst hK
  exact op_eqD hu
theorem op_neDK {K : PySem.W.Frag} (hu : X.A.units + 64 < cLine) (hK : X.K = K := by rfl) : OpR X (compareOp .NotEq) (rNeD K) := by
  subst hK
  exact op_neD hu
theorem ix_listK {K : PySem.W.Frag} (hK : X.K = K := by rfl) : IxR X (rIxL K) := by
  subst hK
  exact ix_list
theorem ix_tupK {K : PySem.W.Frag} (hK : X.K = K := by rfl) : IxR X (rIxT K) := by
  subst hK
  exact ix_tup
end
end Sn

/-! ## Plain texts as data: shapes, equality; keys of a dict; paths -/
namespace Sn
open PySem PySem.Spec PyProof.Rows L2 TL
def Asc (z : Str) : Prop := ∀ c ∈ tl z, c < 128
theorem asc_app {x y : Str} (a : Asc x) (b : Asc y) : Asc (x ++ y) := fun c h => by
  rw [tl_append] at h
  exact (List.mem_append.mp h).elim (a c) (b c)
theorem asc_cut {z : Str} (a : Asc z) (lo hi : Option Int) : Asc (cutS z lo hi) := fun c h => a c (List.mem_of_mem_drop (List.mem_of_mem_take h))
theorem sgn_asc : ∀ c ∈ tl sgnS, c < 128 := by decide +kernel
theorem isN_sgn {z : Str} (h : isN z = true) : ∀ c ∈ tl z, c ∈ tl sgnS := fun c hc => by
  unfold isN isW at h
  simp only [Bool.and_eq_true, List.all_eq_true, decide_eq_true_eq] at h
  exact h.1.2 c hc
theorem asc_name {z : Str} (h : isN z = true) : Asc z := fun c hc => sgn_asc c (isN_sgn h c hc)
theorem dp_strs {K : PySem.W.Frag} {H : Hp} : ∀ l : List Str, DpAll K H (l.map V.str) (l.map PyData.str)
  | [] => .nil
  | z :: r => .cons (.str z) (dp_strs r)
theorem canLay_strs (l : List Str) : (∀ z ∈ l, Asc z) → PyData.canLayAll0 (l.map PyData.str) = true := by
  induction l with
  | nil => intro _; rfl
  | cons z r ih =>
    intro h
    have hz : PyData.strOk z = true := by
      unfold PyData.strOk
      rw [← Array.all_toList, List.all_eq_true]
      intro c hc
      have := h z (List.mem_cons.mpr (.inl rfl)) c hc
      exact decide_eq_true (by omega)
    simp only [List.map_cons, PyData.canLayAll0, PyData.canLay0, hz, ih fun y hy => h y (List.mem_cons.mpr (.inr hy))]
    rfl
theorem depth_strs (l : List Str) : PyData.depthAll (l.map PyData.str) = 0 := by
  induction l with
  | nil => rfl
  | cons z r ih => simp [PyData.depthAll, PyData.depth, ih]
theorem shaped_strs (l : List Str) (h : ∀ z ∈ l, Asc z) : SeqAt.shaped (.list (l.map PyData.str)) = true := by
  simp [SeqAt.shaped, PyData.canLay0, PyData.depth, canLay_strs l h, depth_strs l]
theorem shaped_tstrs (l : List Str) (h : ∀ z ∈ l, Asc z) : SeqAt.shaped (.tuple (l.map PyData.str)) = true := by
  simp [SeqAt.shaped, PyData.canLay0, PyData.depth, canLay_strs l h, depth_strs l]
theorem eqvAll_strs : ∀ l r : List Str, PyData.eqvAll (l.map PyData.str) (r.map PyData.str) = decide (l = r)
  | [], [] => rfl
  | [], _ :: _ => by simp [PyData.eqvAll]
  | _ :: _, [] => by simp [PyData.eqvAll]
  | a :: l, b :: r => by
    show (PyData.eqv (.str a) (.str b) && PyData.eqvAll (l.map PyData.str) (r.map PyData.str)) = _
    rw [eqvAll_strs l r]
    show ((a == b) && decide (l = r)) = _
    by_cases h : a = b
    · subst h; simp
    · simp [h]
theorem eqv_lists (l r : List Str) : PyData.eqv (.list (l.map PyData.str)) (.list (r.map PyData.str)) = decide (l = r) := by
  show PyData.eqvAll _ _ = _
  exact eqvAll_strs l r
theorem eqv_tups (l r : List Str) : PyData.eqv (.tuple (l.map PyData.str)) (.tuple (r.map PyData.str)) = decide (l = r) := by
  show PyData.eqvAll _ _ = _
  exact eqvAll_strs l r
/-- a path, as the sets want it -/
structure Pth (z : Str) : Prop where
  p : isP z = true
  a : Asc z
  l : z.length ≤ 1000
theorem dot_no : 46 ∉ tl sgnS := by decide +kernel
theorem pth_of {a b : Str} (ha : isN a = true) (hb : isN b = true) : Pth (a ++ "." ++ b) := by
  have na : 46 ∉ tl a := fun h => dot_no (isN_sgn ha _ h)
  have nb : 46 ∉ tl b := fun h => dot_no (isN_sgn hb _ h)
  have e : tl (a ++ "." ++ b) = tl a ++ 46 :: tl b := by
    rw [tl_append, tl_append, show tl ("." : Str) = [46] by decide +kernel, List.append_assoc]; rfl
  have sp := split_one e na
  have sp2 : spl [46] 0 [] (tl b) = [tl b] := spl_last1 (s := 46) (S := []) (p := tl b) (acc := []) nb
  have es : Txt.split (a ++ "." ++ b) dotS = [a, b] := by
    apply map_tl_inj
    rw [sp, sp2]; rfl
  have ha8 := isN_len ha
  have hb8 := isN_len hb
  refine ⟨?_, asc_app (asc_app (asc_name ha) (by unfold Asc; decide +kernel)) (asc_name hb), ?_⟩
  · unfold isP
    have es2 : Txt.split (a ++ "." ++ b) "." = [a, b] := es
    rw [es2]
    simp [ha, hb]
  · rw [len_tl, e, List.length_append, List.length_cons, ← len_tl, ← len_tl]
    omega
/-- texts as keys, all with True -/
def trues (ks : List Str) : List (Key × V) := ks.map fun z => (Sum.inr z, V.bl true)
theorem put_true (ks : List Str) (z : Str) : putK (trues ks) (Sum.inr z) (.bl true) = trues (if z ∈ ks then ks else ks ++ [z]) := by
  unfold putK
  have h : ((trues ks).any fun kv => decide (kv.1 = Sum.inr z)) = decide (z ∈ ks) := by
    unfold trues
    rw [List.any_map, Bool.eq_iff_iff, List.any_eq_true, decide_eq_true_eq]
    constructor
    · rintro ⟨x, hx, e⟩
      have e2 : (Sum.inr x : Key) = Sum.inr z := by simpa using e
      injection e2 with e2
      exact e2 ▸ hx
    · intro hz
      exact ⟨z, hz, by simp⟩
  rw [h]
  by_cases hz : z ∈ ks
  · rw [if_pos (decide_eq_true hz), if_pos hz]
    unfold trues
    rw [List.map_map]
    refine List.map_congr_left fun x _ => ?_
    show (if (Sum.inr x : Key) = Sum.inr z then ((Sum.inr x : Key), V.bl true) else (Sum.inr x, V.bl true)) = _
    split <;> rfl
  · rw [if_neg (by simpa using hz), if_neg hz]
    unfold trues
    rw [List.map_append]; rfl
theorem map_str_inj {l r : List Str} (h : l.map V.str = r.map V.str) : l = r := by
  induction l generalizing r with
  | nil => cases r with
    | nil => rfl
    | cons _ _ => cases h
  | cons a l ih => cases r with
    | nil => cases h
    | cons b r =>
      injection h with h1 h2
      injection h1 with h1
      rw [h1, ih h2]
theorem get_strs {l : List Str} {i : Nat} {x : V} (h : (l.map V.str)[i]? = some x) : ∃ z, l[i]? = some z ∧ x = V.str z := by
  rw [List.getElem?_map] at h
  cases e : l[i]? with
  | none => rw [e] at h; cases h
  | some y => rw [e] at h; exact ⟨y, rfl, (Option.some.inj h).symm⟩
end Sn

/-! ## Own errors whose __init__ says super().__init__(text) and keeps its arguments -/
namespace Sn
open PySem PySem.Spec PyProof.Rows L2
/-- super().__init__(m) -/
abbrev supSt (m : Str) (j : Nat) (p0 p1 p2 p3 p4 p5 : Pos) : Stmt := .Expr (.Call (.Attribute (.Call (.Name "super" p0) [] [] p1) "__init__" p2) [.Constant (.str m) j p3] [] p4) p5
/-- how its call is evaluated: the places tell nothing else -/
def SupEv (m : Str) (j : Nat) (p0 p1 p2 p3 p4 : Pos) : Prop := ∀ env : Env, eval (.Call (.Attribute (.Call (.Name "super" p0) [] [] p1) "__init__" p2) [.Constant (.str m) j p3] [] p4) env = (do
  let ov ← attributeBase (.Call (.Name "super" p0) [] [] p1) "__init__" env (eval (.Call (.Name "super" p0) [] [] p1) env)
  standAt p2.atName
  let (f, first) ← holding [ov] (getMethod ov "__init__" (do return (← importBound (.Call (.Name "super" p0) [] [] p1) env).getD true))
  callWith p4 f first (backTo p4 (starEach [.Constant (.str m) j p3] env)) [])
/-- self.f = g -/
abbrev keepSt (f g : Str) (q1 q2 q3 q4 : Pos) : Stmt := .Assign [.Attribute (.Name "self" q1) f q2] (.Name g q3) q4
/-- what the written part says of the __init__ at fI of the class at C -/
structure SupFn (P : Program) (K : PySem.W.Frag) (C fI : Addr) (st : Stmt) (qual : Str) : Prop where
  fn : ∃ (oc kV doc pm ct ccl cl : Value) (od an cdd cld : Option Addr) (cda cc : Addr) (osl ccs csl : Array (Option Value)) (vs : Array Value) (file : Str) (tf : Tok),
    K.lookup fI = some ⟨oc, od, .func (PySem.W.ksFn "__init__" qual (defArgs st) (defBody st) (defScope st) .none kV doc pm an (.ref cda) ct cc), osl⟩ ∧ PySem.W.codeIn K (.ref cda) qual = true ∧
    K.lookup cda = some ⟨ccl, cdd, .fields vs, ccs⟩ ∧ vs[2]? = some (.str file tf) ∧ ((P.main.file : Str) == file) = true ∧ K.lookup cc = some ⟨cl, cld, .cell (some (.ref C)), csl⟩
  top : (P.main.scope.names.lookup ("super" : Str)).isSome = false
  sup : PySem.W.ks_superIn K C C "__init__" = some (some (.builtin "ValueError.__init__"))
  self : PySem.W.mroIn K C (.ref C) = some true
  opq : PySem.W.nsIn K cStatics "thirdparty.any" = some none
  ve : PySem.W.subIn K (.ref C) (.type "ValueError") = some true
/-- what the text of such an __init__ says -/
structure SupTxt (st : Stmt) : Prop where
  ks : (defScope st).names.lookup ("super" : Str) = some .globalImplicit
  kc : (defScope st).names.lookup ("__class__" : Str) = some .free
  kf : (defScope st).names.lookup ("self" : Str) = some .local
  nc : ∀ x ∈ (defScope st).names, x.2 ≠ .cell
  hp : ∃ ar : Arg, ((defArgs st).posonlyargs ++ (defArgs st).args).head? = some ar ∧ ar.arg = "self"
  co : (defScope st).isCoroutine = false
  gen : (defScope st).isGenerator = false
  kind : (defScope st).kind = .function
section
variable {prog : Program} {w : World} {A : Around} {E : Value → Shared → Prop} {R : Result → Shared → Prop} {s : Shared} {K : PySem.W.Frag} {mg mb : Str → Option Value} {C fI : Addr} {st : Stmt} {qual : Str}
open PySem.W PySem.Calls PySem.HandSPX
theorem cls_of (O : OexC K C) : ∃ cd : ClassData, clsIn K C = some cd ∧ refsVE cd.mro = true ∧ cd.hasDict = true := by
  obtain ⟨nm, q, N, bs, bm, sn, sub, ab, col, dd, k0, k1, k2, k3, k5, hC, hbm⟩ := O.cls
  exact ⟨{ name := nm, bases := bs, mro := .ref C :: bm, ns := N, qualname := q, hasDict := true, slotNames := sn, subclasses := sub, abstract := ab, collection := col, hasDel := false }, by unfold clsIn; rw [hC] <;> rfl, hbm, rfl⟩
/-- super().__init__(m): the args are laid anew, nothing else is told -/
theorem sup_step {body : List Stmt} {m : Str} {j : Nat} {p0 p1 p2 p3 p4 p5 : Pos} {ml : Str → Option Value} {L x t0 cda cc : Addr} {oc kV doc pm ct ccl cl : Value} {od an cdd cld : Option Addr} {osl ccs csl : Array (Option Value)} {vs : Array Value} {file : Str} {tf : Tok} {Q : Flow → Shared → Prop}
    (hev : SupEv m j p0 p1 p2 p3 p4) (O : OexC K C) (S : SupFn prog K C fI st qual) (T : SupTxt st)
    (hf : K.lookup fI = some ⟨oc, od, .func (ksFn "__init__" qual (defArgs st) (defBody st) (defScope st) .none kV doc pm an (.ref cda) ct cc), osl⟩)
    (hcode : K.lookup cda = some ⟨ccl, cdd, .fields vs, ccs⟩) (hvs : vs[2]? = some (.str file tf)) (hfile : ((prog.main.file : Str) == file) = true) (hcell : K.lookup cc = some ⟨cl, cld, .cell (some (.ref C)), csl⟩)
    (X : K.In s.heap) (G : s.heap.Ns mainGlobals mg) (hmg : mg "super" = none) (Bn : s.heap.Ns builtinsNs mb) (hb : mb "super" = some (.type "super"))
    (hn : s.heap.Ns L ml) (hv : ml "self" = some (.ref x)) (hx : s.heap.get? x = some (excO C t0)) (hnx : K.lookup x = none)
    (h : ∀ h' tk t1, (∀ b o, b ≠ x → s.heap.get? b = some o → h'.get? b = some o) → h'.get? x = some (excO C t1) → Q .next { s with heap := h', toks := tk }) :
    PySem.wpAt (model prog w) A (.func body (ksEnv qual (defScope st) L fI (.ref cda) cc)) (exec (supSt m j p0 p1 p2 p3 p4 p5) (ksEnv qual (defScope st) L fI (.ref cda) cc)) Q E s := by
  obtain ⟨cd, hcd, hmro, hdct⟩ := cls_of O
  obtain ⟨ar, har, hself⟩ := T.hp
  obtain ⟨nm, q, N, bs, bm, sn, sub, ab, col, dd, k0, k1, k2, k3, k5, hC, hbm⟩ := O.cls
  obtain ⟨oD, hD1, hD2⟩ : ∃ oD, s.heap.get? C = some oD ∧ oD.data = .cls cd := by
    unfold clsIn at hcd
    split at hcd
    · rename_i c d cd' sl ho
      cases hcd
      exact ⟨_, X _ _ ho, rfl⟩
    · cases hcd
  have I : InstAt s.heap x (excO C t0) C none := ⟨hx, rfl, rfl, trivial⟩
  obtain ⟨hh, g, d, t, os⟩ := s
  refine ks_wpAt_Expr_any (ks_wpAt_MethodCall (he := hev _) ?_) (hi := by simp [interactive, T.kind])
  refine ks_wpAt_super_base (env := ksEnv qual (defScope st) L fI (.ref cda) cc) T.ks T.kc (by decide) rfl (X _ _ hf) rfl har rfl (X _ _ hcode) rfl hvs hfile S.top ?_
  refine ks_loadName_global T.kind T.ks (loadGlobal_builtin (env := ksEnv qual (defScope st) L fI (.ref cda) cc) G hmg Bn hb ⟨rfl, ?_⟩)
  refine wpAny_loadName_free T.kind T.kc rfl ⟨_, X _ _ hcell, rfl⟩ ?_
  rw [hself]
  refine wpAny_loadName_local T.kind T.kf hn hv ?_
  refine ks_wpAny_isType_cls hD1 hD2 ⟨rfl, ?_⟩
  refine ks_wpAny_call_super hD1 hD2 hx rfl (fun c e => by cases e) (looks_mroIn X S.self) (fun h1 e1 k1 => ?_)
  have X1 : K.In h1 := X.keeps k1
  have hm := S.sup
  unfold ks_superIn at hm
  rw [hcd] at hm
  have I1 : InstAt h1 x (excO C t0) C none := ⟨k1 _ _ hx, rfl, rfl, trivial⟩
  have hI : Looks (model prog w) h1 (isInstance (.ref x) (.type "ValueError")) true := I1.type.andThen (looks_subIn X1 S.ve)
  refine kxs_getMethod kxs_ValueError e1 (looks_opaque X1 S.opq) (l₀ := cd.mro) (fun A Q E s k q => wpAny_bind ((looks_clsIn X1 hcd) A _ E s k (wpAny_pure q))) rfl X1 hm hI (ks_ne X1 I1 hcd) (by decide) ?_
  have hz1 : (h1.push (kxs_mw "ValueError.__init__" x)).get? h1.objs.size = some (kxs_mw "ValueError.__init__" x) := Heap.get?_push_size _ rfl
  have hx1 : (h1.push (kxs_mw "ValueError.__init__" x)).get? x = some (excO C t0) := Heap.get?_push_of_some _ (k1 _ _ hx)
  have hC1 := Heap.get?_push_of_some (kxs_mw "ValueError.__init__" x) (X1 _ _ hC)
  have kk : ∀ b o, hh.get? b = some o → (h1.push (kxs_mw "ValueError.__init__" x)).get? b = some o := fun b o e => Heap.get?_push_of_some _ (k1 b o e)
  generalize h1.push (kxs_mw "ValueError.__init__" x) = h2 at hz1 hx1 hC1 kk
  refine kxs_callWith (i := "ValueError.__init__") (x := x) rfl ?_
  refine evalArgs_plain (spliced_cons (Calls.Constant_str (k := j) (pos := p3) (spliced_nil ⟨hz1, ?_⟩)))
  refine wpAny_call (codeAny_of_tree ?_)
  show wpAny _ A.in1 (callAny (.ref h1.objs.size) ⟨[Value.str m _], []⟩) _ _ _
  simp only [callAny]
  refine wpAny_bind (wpAny_load hz1 ?_)
  simp only [kxs_mw, show (Value.type "method-wrapper" == Value.type "method" || Value.type "method-wrapper" == Value.type "builtin_function_or_method" || Value.type "method-wrapper" == Value.type "method-wrapper") = true by decide, if_true]
  refine KFB.if_so (by decide) ?_
  refine wpAny_bind (check_bound_init F.excBase_ValueError.toExcCallFacts hC1 hx1 rfl ?_)
  refine wpAny_bind (wpAny_pure (wpAny_pure ?_))
  refine ⟨plainId_quiet F.excBase_ValueError.init.plain _, codeAny_builtin F.excBase_ValueError.initEntry ?_⟩
  refine exc_init_tree (cls := .ref C) (t0 := t0) (dv := none) (c2 := .none) (c3 := .none) (b4 := .bool false) hx1 (by rw [sizeLine_eq]; show 1 ≤ 16777216; decide) fun h3 k3 e3 t3 => ?_
  exact h h3 _ _ (fun b o hb e => k3 b o hb (kk b o e)) e3
theorem ldK {M : Model} {s : Shared} {name : Str} {scope : Scope} {L a cc : Addr} {cd : Value} {m : Str → Option Value} {x : Str} {pos : Pos} {v : Value} {Q : Value → Shared → Prop} {A : Around} {E : Value → Shared → Prop} (hn : s.heap.Ns L m) (hv : m x = some v) (h : Q v s)
    (hk : scope.kind = .function) (hl : scope.names.lookup x = some .local) (hd : (x == ("__debug__" : Str)) = false) : wpAny M A (eval (.Name x pos) (ksEnv name scope L a cd cc)) Q E s := wpAny_Name (wpAny_loadName_local hk hl hn hv h) hd
theorem kept_but {h h' : Heap} {x : Addr} (X : K.In h) (hx : K.lookup x = none) (k : ∀ b o, b ≠ x → h.get? b = some o → h'.get? b = some o) : K.In h' := fun a o e =>
  k a o (fun z => by rw [z, hx] at e; cases e) (X a o e)
/-- what such an __init__ leaves of a fresh error at x: its dict at dx -/
structure ErrEnd (h h' : Heap) (x C dx t1 : Addr) (ms : Str → Option Value) : Prop where
  keep : ∀ b o, b ≠ x → h.get? b = some o → h'.get? b = some o
  obj : h'.get? x = some { cls := .ref C, dict := some dx, data := .fields #[.ref t1, .none, .none, .none, .bool false, .none] }
  dbig : h.objs.size ≤ dx
  dne : dx ≠ x
  ns : h'.Ns1 dx ms
/-- the text: super().__init__(m), self.f = f -/
structure Txt1 (st : Stmt) (f : Str) : Prop where
  T : SupTxt st
  kf : (defScope st).names.lookup f = some .local
  df : (f == ("__debug__" : Str)) = false
  nf : f ≠ "self"
  bd : ∃ (m : Str) (j : Nat) (p0 p1 p2 p3 p4 p5 q1 q2 q3 q4 : Pos), defBody st = [supSt m j p0 p1 p2 p3 p4 p5, keepSt f f q1 q2 q3 q4] ∧ SupEv m j p0 p1 p2 p3 p4
theorem err_init1 {f : Str} (O : OexC K C) (S : SupFn prog K C fI st qual) (T : Txt1 st f) (hno : findIn K (.ref C) f = some none) {x t0 : Addr} {v : Value} {args : Args}
    (hb : ∀ (kV doc pm : Value) (an : Option Addr) (cdv ct : Value) (cc : Addr), BindsTo s (ksFn "__init__" qual (defArgs st) (defBody st) (defScope st) .none kV doc pm an cdv ct cc) args [("self", .ref x), (f, v)])
    (X : K.In s.heap) (G : s.heap.Ns mainGlobals mg) (hmg : mg "super" = none) (Bn : s.heap.Ns builtinsNs mb) (hbb : mb "super" = some (.type "super"))
    (hlim : s.heap.NoLimit) (hx : s.heap.get? x = some (excO C t0)) (hnx : K.lookup x = none) (hroom : A.depth < recursionLimit)
    (hq : ∀ h' tk dx t1, ErrEnd s.heap h' x C dx t1 (fun y => if y = f then some v else none) → R (.ok (.ret .none)) { s with heap := h', toks := tk }) :
    codeAny (model prog w) A (.call (.ref fI) args) R s := by
  obtain ⟨oc, kV, doc, pm, ct, ccl, cl, od, an, cdd, cld, cda, cc, osl, ccs, csl, vs, file, tf, hf, hcd, hcode, hvs, hfile, hcell⟩ := S.fn
  obtain ⟨m, j, p0, p1, p2, p3, p4, p5, q1, q2, q3, q4, ebody, hev⟩ := T.bd
  obtain ⟨cd, hcls, hmro, hdct⟩ := cls_of O
  refine ks_codeAny_call_defAt (fd := ksFn "__init__" qual (defArgs st) (defBody st) (defScope st) .none kV doc pm an (.ref cda) ct cc) (body := defBody st) (binds := [("self", .ref x), (f, v)]) hroom (X _ _ hf) rfl hlim (codeRec_of X hcd) rfl (hb kV doc pm an (.ref cda) ct cc)
    T.T.nc ?_ (fun h1 hn k1 => ?_) T.T.co T.T.gen T.T.kind
  · intro y hy
    rcases List.mem_cons.mp hy with rfl | hy
    · exact T.T.kf
    · rw [List.mem_singleton.mp hy]; exact T.kf
  show PySem.wpAt _ (A.deeper (ksEnv qual (defScope st) s.heap.objs.size fI (.ref cda) cc)) (.func (defBody st) (ksEnv qual (defScope st) s.heap.objs.size fI (.ref cda) cc)) (execs (defBody st) (ksEnv qual (defScope st) s.heap.objs.size fI (.ref cda) cc)) _ _ _
  generalize hA : A.deeper (ksEnv qual (defScope st) s.heap.objs.size fI (.ref cda) cc) = A1
  generalize hcode2 : Code.func (defBody st) (ksEnv qual (defScope st) s.heap.objs.size fI (.ref cda) cc) = code
  rw [ebody]
  have l1 : (([("self", .ref x), (f, v)] : List (Str × Value)).reverse.lookup ("self" : Str)) = some (Value.ref x) := by
    show List.lookup _ [(f, v), ("self", .ref x)] = _
    have e : (("self" : Str) == f) = false := by simpa using fun e => T.nf e.symm
    simp [List.lookup, e]
  have l2 : (([("self", .ref x), (f, v)] : List (Str × Value)).reverse.lookup f) = some v := by
    show List.lookup _ [(f, v), ("self", .ref x)] = _
    simp [List.lookup]
  refine ks_wpAt_execs_cons ?_
  rw [← hcode2]
  have X1 : K.In h1 := X.keeps k1
  refine sup_step (s := { s with heap := h1, toks := s.toks + 2 }) hev O S T.T hf hcode hvs hfile hcell X1 (G.keeps k1) hmg (Bn.keeps k1) hbb hn l1 (k1 _ _ hx) hnx fun h2 tk2 t1 k2 hx2 => ?_
  have X2 : K.In h2 := kept_but X1 hnx k2
  have hxL : s.heap.objs.size ≠ x := Nat.ne_of_gt (Heap.lt_size hx)
  have hn2 : h2.Ns s.heap.objs.size (fun y => ([("self", .ref x), (f, v)] : List (Str × Value)).reverse.lookup y) := by
    obtain ⟨o, es, ep, ho, r⟩ := hn
    exact ⟨o, es, ep, k2 _ _ hxL ho, r⟩
  refine wpAt_of_wpAny (wpAny_execs_cons (plainObj_wpAny_Assign_Attribute ?_))
  refine ldK hn2 l2 (ldK hn2 l1 ?_ T.T.kind T.T.kf (by decide)) T.T.kind T.kf T.df
  refine set_plain X2 (ox := excO C t1) (od := none) ⟨hx2, rfl, rfl, trivial⟩ O.sa ?_
  refine exc_osa X2 hx2 hcls hmro hdct hno (fun h3 tk3 dx k3 dn dne hx3 hn3 => ?_)
  refine wpAny_execs_nil (hq h3 tk3 dx t1 ⟨fun b o hb e => k3 b o hb (k2 b o hb (k1 b o e)), hx3, ?_, dne, hn3⟩)
  have z : s.heap.objs.size < h2.objs.size := hn2.lt
  exact Nat.le_of_lt (Nat.lt_of_lt_of_le z dn)
/-- the text: super().__init__(m), self.f = f, self.g = g -/
structure Txt2 (st : Stmt) (f g : Str) : Prop where
  T : SupTxt st
  kf : (defScope st).names.lookup f = some .local
  kg : (defScope st).names.lookup g = some .local
  df : (f == ("__debug__" : Str)) = false
  dg : (g == ("__debug__" : Str)) = false
  nf : f ≠ "self"
  ng : g ≠ "self"
  fg : f ≠ g
  bd : ∃ (m : Str) (j : Nat) (p0 p1 p2 p3 p4 p5 q1 q2 q3 q4 r1 r2 r3 r4 : Pos), defBody st = [supSt m j p0 p1 p2 p3 p4 p5, keepSt f f q1 q2 q3 q4, keepSt g g r1 r2 r3 r4] ∧ SupEv m j p0 p1 p2 p3 p4
theorem err_init2 {f g : Str} (O : OexC K C) (S : SupFn prog K C fI st qual) (T : Txt2 st f g) (hno : findIn K (.ref C) f = some none) (hno2 : findIn K (.ref C) g = some none) {x t0 : Addr} {v u : Value} {args : Args}
    (hb : ∀ (kV doc pm : Value) (an : Option Addr) (cdv ct : Value) (cc : Addr), BindsTo s (ksFn "__init__" qual (defArgs st) (defBody st) (defScope st) .none kV doc pm an cdv ct cc) args [("self", .ref x), (f, v), (g, u)])
    (X : K.In s.heap) (G : s.heap.Ns mainGlobals mg) (hmg : mg "super" = none) (Bn : s.heap.Ns builtinsNs mb) (hbb : mb "super" = some (.type "super"))
    (hlim : s.heap.NoLimit) (hx : s.heap.get? x = some (excO C t0)) (hnx : K.lookup x = none) (hroom : A.depth < recursionLimit)
    (hq : ∀ h' tk dx t1, ErrEnd s.heap h' x C dx t1 (fun y => if y = g then some u else if y = f then some v else none) → R (.ok (.ret .none)) { s with heap := h', toks := tk }) :
    codeAny (model prog w) A (.call (.ref fI) args) R s := by
  obtain ⟨oc, kV, doc, pm, ct, ccl, cl, od, an, cdd, cld, cda, cc, osl, ccs, csl, vs, file, tf, hf, hcd, hcode, hvs, hfile, hcell⟩ := S.fn
  obtain ⟨m, j, p0, p1, p2, p3, p4, p5, q1, q2, q3, q4, r1, r2, r3, r4, ebody, hev⟩ := T.bd
  obtain ⟨cd, hcls, hmro, hdct⟩ := cls_of O
  refine ks_codeAny_call_defAt (fd := ksFn "__init__" qual (defArgs st) (defBody st) (defScope st) .none kV doc pm an (.ref cda) ct cc) (body := defBody st) (binds := [("self", .ref x), (f, v), (g, u)]) hroom (X _ _ hf) rfl hlim (codeRec_of X hcd) rfl (hb kV doc pm an (.ref cda) ct cc)
    T.T.nc ?_ (fun h1 hn k1 => ?_) T.T.co T.T.gen T.T.kind
  · intro y hy
    rcases List.mem_cons.mp hy with rfl | hy
    · exact T.T.kf
    rcases List.mem_cons.mp hy with rfl | hy
    · exact T.kf
    · rw [List.mem_singleton.mp hy]; exact T.kg
  show PySem.wpAt _ (A.deeper (ksEnv qual (defScope st) s.heap.objs.size fI (.ref cda) cc)) (.func (defBody st) (ksEnv qual (defScope st) s.heap.objs.size fI (.ref cda) cc)) (execs (defBody st) (ksEnv qual (defScope st) s.heap.objs.size fI (.ref cda) cc)) _ _ _
  generalize hA : A.deeper (ksEnv qual (defScope st) s.heap.objs.size fI (.ref cda) cc) = A1
  generalize hcode2 : Code.func (defBody st) (ksEnv qual (defScope st) s.heap.objs.size fI (.ref cda) cc) = code
  rw [ebody]
  have l1 : (([("self", .ref x), (f, v), (g, u)] : List (Str × Value)).reverse.lookup ("self" : Str)) = some (Value.ref x) := by
    show List.lookup _ [(g, u), (f, v), ("self", .ref x)] = _
    have e : (("self" : Str) == f) = false := by simpa using fun e => T.nf e.symm
    have e' : (("self" : Str) == g) = false := by simpa using fun e => T.ng e.symm
    simp [List.lookup, e, e']
  have l2 : (([("self", .ref x), (f, v), (g, u)] : List (Str × Value)).reverse.lookup f) = some v := by
    show List.lookup _ [(g, u), (f, v), ("self", .ref x)] = _
    have e : (f == g) = false := by simpa using T.fg
    simp [List.lookup, e]
  have l3 : (([("self", .ref x), (f, v), (g, u)] : List (Str × Value)).reverse.lookup g) = some u := by
    show List.lookup _ [(g, u), (f, v), ("self", .ref x)] = _
    simp [List.lookup]
  refine ks_wpAt_execs_cons ?_
  rw [← hcode2]
  have X1 : K.In h1 := X.keeps k1
  refine sup_step (s := { s with heap := h1, toks := s.toks + 3 }) hev O S T.T hf hcode hvs hfile hcell X1 (G.keeps k1) hmg (Bn.keeps k1) hbb hn l1 (k1 _ _ hx) hnx fun h2 tk2 t1 k2 hx2 => ?_
  have X2 : K.In h2 := kept_but X1 hnx k2
  have hxL : s.heap.objs.size ≠ x := Nat.ne_of_gt (Heap.lt_size hx)
  have keepNs : ∀ {h h' : Heap}, h.Ns s.heap.objs.size (fun y => ([("self", .ref x), (f, v), (g, u)] : List (Str × Value)).reverse.lookup y) → (∀ b o, b ≠ x → h.get? b = some o → h'.get? b = some o) →
      h'.Ns s.heap.objs.size (fun y => ([("self", .ref x), (f, v), (g, u)] : List (Str × Value)).reverse.lookup y) := fun {h h'} hn k => by
    obtain ⟨o, es, ep, ho, r⟩ := hn
    exact ⟨o, es, ep, k _ _ hxL ho, r⟩
  have hn2 := keepNs hn k2
  refine wpAt_of_wpAny (wpAny_execs_cons (plainObj_wpAny_Assign_Attribute ?_))
  refine ldK hn2 l2 (ldK hn2 l1 ?_ T.T.kind T.T.kf (by decide)) T.T.kind T.kf T.df
  refine set_plain X2 (ox := excO C t1) (od := none) ⟨hx2, rfl, rfl, trivial⟩ O.sa ?_
  refine exc_osa X2 hx2 hcls hmro hdct hno (fun h3 tk3 dx k3 dn dne hx3 hn3 => ?_)
  have X3 : K.In h3 := kept_but X2 hnx k3
  have hn3' := keepNs hn2 k3
  refine wpAny_execs_cons (plainObj_wpAny_Assign_Attribute ?_)
  refine ldK hn3' l3 (ldK hn3' l1 ?_ T.T.kind T.T.kf (by decide)) T.T.kind T.kg T.dg
  have hw : Within (fun y => if y = f then some v else none) [f] := fun y hy => by
    by_cases e : y = f
    · rw [e]; simp
    · exact absurd (if_neg e) hy
  obtain ⟨oD, _, _, hoD, _, _⟩ := hn3.count hw
  refine set_plain X3 (ox := { cls := .ref C, dict := some dx, data := .fields #[.ref t1, .none, .none, .none, .bool false, .none] }) (od := some oD) ⟨hx3, rfl, rfl, hoD⟩ O.sa ?_
  refine PySem.OEX.osa_old X3 hx3 hn3 hw (by show 1 ≤ 1000; decide) hcls hmro hdct hno2 (fun h4 tk4 k4 hn4 => ?_)
  have z : s.heap.objs.size < h2.objs.size := hn2.lt
  have dbig : s.heap.objs.size ≤ dx := Nat.le_of_lt (Nat.lt_of_lt_of_le z dn)
  have olddx : ∀ {b : Addr} {o : Obj}, s.heap.get? b = some o → b ≠ dx := fun {b o} e => Nat.ne_of_lt (Nat.lt_of_lt_of_le (Heap.lt_size e) dbig)
  exact wpAny_execs_nil (hq h4 tk4 dx t1 ⟨fun b o hb e => k4 b o (olddx e) (k3 b o hb (k2 b o hb (k1 b o e))), k4 _ _ dne.symm hx3, dbig, dne, hn4⟩)
/-- a made error -/
structure ErrMade (h h' : Heap) (e C d : Addr) (ms : Str → Option Value) : Prop where
  keep : ∀ b o, h.get? b = some o → h'.get? b = some o
  new : h.objs.size ≤ e
  obj : ∃ oe vs, h'.get? e = some oe ∧ oe.cls = .ref C ∧ oe.dict = some d ∧ oe.data = .fields vs ∧ vs[1]? = some .none
  dbig : h.objs.size ≤ d
  dne : d ≠ e
  ns : h'.Ns1 d ms
/-- C(..): the record, then the own __init__ -/
theorem err_made {us : List Value} {ms : Str → Option Value} (O : OexC K C) (iC : findIn K (.ref C) "__init__" = some (some (.ref fI))) (tI : typeIn K (.ref fI) = some (.type "function")) (X : K.In s.heap) (hus : us.length ≤ sizeLine)
    (hi : ∀ (A1 : Around) (R1 : Result → Shared → Prop) (s1 : Shared) (x t0 : Addr), A1.depth = A.depth + 1 → K.In s1.heap → (∀ b o, s.heap.get? b = some o → s1.heap.get? b = some o) → s1.heap.get? x = some (excO C t0) → K.lookup x = none →
      (∀ h' tk dx t1, ErrEnd s1.heap h' x C dx t1 ms → R1 (.ok (.ret .none)) { s1 with heap := h', toks := tk }) → codeAny (model prog w) A1 (.call (.ref fI) ⟨.ref x :: us, []⟩) R1 s1)
    (hq : ∀ h' tk e d, ErrMade s.heap h' e C d ms → R (.ok (.ret (.ref e))) { s with heap := h', toks := tk }) :
    codeAny (model prog w) A (.call (.ref C) ⟨us, []⟩) R s := by
  obtain ⟨nm, q, N, bs, bm, sn, sub, ab, col, dd, k0, k1, k2, k3, k5, hC, hbm⟩ := O.cls
  obtain ⟨hp, g, dr, tk, os⟩ := s
  have k : ∀ b o, hp.get? b = some o → ((hp.push (kdv_tup us)).push (excO C hp.objs.size)).get? b = some o := fun b o e => Heap.get?_push_of_some _ (Heap.get?_push_of_some _ e)
  have hget : ((hp.push (kdv_tup us)).push (excO C hp.objs.size)).get? (hp.objs.size + 1) = some (excO C hp.objs.size) := by heap_get
  have hnx : K.lookup (hp.objs.size + 1) = none := by
    cases e : K.lookup (hp.objs.size + 1) with
    | none => rfl
    | some o =>
      have z : hp.get? (hp.objs.size + 1) = some o := X _ _ e
      exact absurd (Nat.lt_of_succ_lt (Heap.lt_size z)) (Nat.lt_irrefl _)
  refine call_own F.excBase_ValueError (fun X => refsVE_contains X bm hbm) (X _ _ hC) (looks_findIn X iC) (fun self => bind_fn X self tI) hus ?_
  refine hi _ _ ⟨(hp.push (kdv_tup us)).push (excO C hp.objs.size), g, dr, tk, os⟩ (hp.objs.size + 1) hp.objs.size rfl (X.keeps k) k hget hnx fun h' tk' dx t1 ⟨k', hx, dn, dne, hns⟩ => ?_
  have old : ∀ b o, hp.get? b = some o → h'.get? b = some o := fun b o e => k' b o (Nat.ne_of_lt (Nat.lt_succ_of_lt (Heap.lt_size e))) (k b o e)
  have z : hp.objs.size + 1 + 1 ≤ dx := by
    have q := dn
    rw [Heap.size_push, Heap.size_push] at q
    exact q
  exact ⟨rfl, hq h' tk' (hp.objs.size + 1) dx ⟨old, Nat.le_succ _, ⟨_, _, hx, rfl, rfl, rfl, rfl⟩, Nat.le_trans (Nat.le_trans (Nat.le_succ _) (Nat.le_succ _)) z, dne, hns⟩⟩
end
/-- what the texts and the written part say of an error class with one kept argument -/
structure Err1 (P : Program) (K : PySem.W.Frag) (mg : Str → Option Value) (x : Str) (C fI : Addr) (st : Stmt) (qual f : Str) : Prop where
  g : mg x = some (.ref C)
  O : OexC K C
  S : SupFn P K C fI st qual
  T : Txt1 st f
  no : PySem.W.findIn K (.ref C) f = some none
  iC : PySem.W.findIn K (.ref C) "__init__" = some (some (.ref fI))
  tI : PySem.W.typeIn K (.ref fI) = some (.type "function")
  b : ∀ (s : Shared) (kV doc pm : Value) (an : Option Addr) (cdv ct : Value) (cc : Addr) (a v : Value), BindsTo s (PySem.W.ksFn "__init__" qual (defArgs st) (defBody st) (defScope st) .none kV doc pm an cdv ct cc) ⟨[a, v], []⟩ [("self", a), (f, v)]
  su : mg "super" = none
structure Err2 (P : Program) (K : PySem.W.Frag) (mg : Str → Option Value) (x : Str) (C fI : Addr) (st : Stmt) (qual f f2 : Str) : Prop where
  g : mg x = some (.ref C)
  O : OexC K C
  S : SupFn P K C fI st qual
  T : Txt2 st f f2
  no : PySem.W.findIn K (.ref C) f = some none
  no2 : PySem.W.findIn K (.ref C) f2 = some none
  iC : PySem.W.findIn K (.ref C) "__init__" = some (some (.ref fI))
  tI : PySem.W.typeIn K (.ref fI) = some (.type "function")
  b : ∀ (s : Shared) (kV doc pm : Value) (an : Option Addr) (cdv ct : Value) (cc : Addr) (a v u : Value), BindsTo s (PySem.W.ksFn "__init__" qual (defArgs st) (defBody st) (defScope st) .none kV doc pm an cdv ct cc) ⟨[a, v, u], []⟩ [("self", a), (f, v), (f2, u)]
  su : mg "super" = none
section
variable {X : Cx} {x f f2 qual : Str} {C fI : Addr} {st : Stmt} {e : Expr} {es : List Expr} {ta : TA} {p pos : Pos} {k : Nat}
theorem relO_one {f : Str} {v : V} {v' : Value} (r : RelV v v') (y : Str) : RelO (List.lookup y [(f, v)]) (if y = f then some v' else none) := relO_put (fs := []) (mA := fun _ => none) r (fun _ => True.intro) y
theorem relO_two {f g : Str} {v u : V} {v' u' : Value} (r : RelV v v') (q : RelV u u') (y : Str) : RelO (List.lookup y [(g, u), (f, v)]) (if y = g then some u' else if y = f then some v' else none) := relO_put (fs := [(f, v)]) q (relO_one r) y
/-- the end of C(..): the error is in the air, its dict is tracked -/
theorem mk_err {pins : List (Addr × Obj)} {σ : L2.St} {H1 : Hp} {Q : XK} {hp h' : Heap} {g : Array GenState} {dr : Drawn} {tk tk' : Nat} {os : OsState} {er d : Addr} {ms : Str → Option Value} {fs : List (Str × V)} (O : OexC X.K C) (I1 : Inv X pins σ H1 ⟨hp, g, dr, tk, os⟩)
    (M : ErrMade hp h' er C d ms) (rel : ∀ y, RelO (List.lookup y fs) (ms y)) (q1 : ∀ d, H1 d = none → Q (.ref C) (some d) (upd H1 d (.xd fs))) : MkP X pins σ Q (.ref er) ⟨h', g, dr, tk', os⟩ := by
  obtain ⟨oe, fv, hoe, hc, hd, hdat, h1⟩ := M.obj
  have hns := M.ns
  obtain ⟨G', g1, g2⟩ := restrict h' fun b => decide (b ≠ er)
  have gk : ∀ b, b ≠ er → G'.get? b = h'.get? b := fun b hb => g1 b (decide_eq_true hb)
  have ge : G'.get? er = none := g2 er (by simp)
  have old : ∀ b o, hp.get? b = some o → G'.get? b = some o := fun b o q => (gk b (Nat.ne_of_lt (Nat.lt_of_lt_of_le (Heap.lt_size q) M.new))).trans (M.keep b o q)
  have ob : ObjOk X.prog X.w (upd H1 d (.xd fs)) G' d (.xd fs) := ⟨_, hns.at (fun o q => (gk d M.dne).trans q), rel⟩
  have J : Inv X pins σ (upd H1 d (.xd fs)) ⟨G', g, dr, tk', os⟩ := I1.laid (t' := tk') old M.dbig ob
  refine ⟨er, oe, fv, ⟨G', g, dr, tk', os⟩, _, .ref C, some d, rfl, J, fun b o q => ?_, ge, hoe, ⟨hc, hd⟩, hdat, h1, ?_, rfl, I1.bare, raises_own O.exC O.tyC, q1 d (I1.hok.fresh M.dbig)⟩
  · by_cases hb : b = er
    · have q' : G'.get? b = some o := q
      rw [hb, ge] at q'; cases q'
    · exact (gk b hb).symm.trans q
  · rw [upd_ne (Ne.symm M.dne)]
    exact I1.hok.fresh M.new
/-- C(e) -/
def tMkE1 (C : Addr) (f : Str) (ta : TA) : L2.St → Hp → XK → Prop := fun σ H Q => ta σ H fun vs H1 => ∃ v, vs = [v] ∧ ∀ d, H1 d = none → Q (.ref C) (some d) (upd H1 d (.xd [(f, v)]))
theorem pmk_err1 (R : Err1 X.prog X.K X.mg x C fI st qual f) (hr : Room k X.A) (hg : Gl X x) (ha : PA X (e :: es) ta) (hdb : (x == ("__debug__" : Str)) = false := by decide)
    (he : starEach (e :: es) X.env = (false, eval e X.env) :: starEach es X.env := by rfl) (hpl : (backTo pos (starEach es X.env)).any (·.1) = false := by rfl) :
    PMk X (.Call (.Name x p) (e :: es) [] pos) (tMkE1 C f ta) := by
  intro pins s σ H Q I h
  refine wpAny_Call_Name_kw (ld_glob I hg R.g ?_ hdb)
  refine PySem.W.callWith_K (h₀ := X.base) I.ok.mod.kin R.O.kC (thn (ha.run pos pins s σ H _ I h) ?_) he hpl
  rintro us s1 ⟨vs, H1, I1, r1, v, rfl, q1⟩
  refine ⟨I1.kIn, ?_⟩
  obtain ⟨u, rfl, rv⟩ := vals1 r1
  obtain ⟨mb, hbn, hbb⟩ := I1.ok.mod.blt
  have bk := I1.bk
  have hlim := I1.nolimit
  obtain ⟨hp, g, dr, tk, os⟩ := s1
  refine wpAny_call (err_made R.O R.iC R.tI I1.kIn (by rw [sizeLine_eq]; show 1 ≤ 16777216; decide) (ms := fun y => if y = f then some u else none) ?_ fun h' tk' er d M => ?_)
  · intro A1 R1 s1 y t0 hd hK hk hx hnx hq
    have kb : ∀ b o, X.base.get? b = some o → s1.heap.get? b = some o := fun b o q => hk b o (bk b o q)
    exact err_init1 R.O R.S R.T R.no (fun kV doc pm an cdv ct cc => R.b _ kV doc pm an cdv ct cc _ _) hK (I1.ok.mod.glob.keeps kb) R.su (hbn.keeps kb) ((hbb _ (by decide +kernel)).trans (by decide +kernel)) (hlim.keeps hk) hx hnx (by have := hr.dp; omega) hq
  · exact mk_err R.O I1 M (relO_one rv) q1
/-- C(e, e') -/
def tMkE2 (C : Addr) (f f2 : Str) (ta : TA) : L2.St → Hp → XK → Prop := fun σ H Q => ta σ H fun vs H1 => ∃ v u, vs = [v, u] ∧ ∀ d, H1 d = none → Q (.ref C) (some d) (upd H1 d (.xd [(f2, u), (f, v)]))
theorem pmk_err2 (R : Err2 X.prog X.K X.mg x C fI st qual f f2) (hr : Room k X.A) (hg : Gl X x) (ha : PA X (e :: es) ta) (hdb : (x == ("__debug__" : Str)) = false := by decide)
    (he : starEach (e :: es) X.env = (false, eval e X.env) :: starEach es X.env := by rfl) (hpl : (backTo pos (starEach es X.env)).any (·.1) = false := by rfl) :
    PMk X (.Call (.Name x p) (e :: es) [] pos) (tMkE2 C f f2 ta) := by
  intro pins s σ H Q I h
  refine wpAny_Call_Name_kw (ld_glob I hg R.g ?_ hdb)
  refine PySem.W.callWith_K (h₀ := X.base) I.ok.mod.kin R.O.kC (thn (ha.run pos pins s σ H _ I h) ?_) he hpl
  rintro us s1 ⟨vs, H1, I1, r1, v, u0, rfl, q1⟩
  refine ⟨I1.kIn, ?_⟩
  obtain ⟨v', u', rfl, rv, ru⟩ := vals2 r1
  obtain ⟨mb, hbn, hbb⟩ := I1.ok.mod.blt
  have bk := I1.bk
  have hlim := I1.nolimit
  obtain ⟨hp, g, dr, tk, os⟩ := s1
  refine wpAny_call (err_made R.O R.iC R.tI I1.kIn (by rw [sizeLine_eq]; show 2 ≤ 16777216; decide) (ms := fun y => if y = f2 then some u' else if y = f then some v' else none) ?_ fun h' tk' er d M => ?_)
  · intro A1 R1 s1 y t0 hd hK hk hx hnx hq
    have kb : ∀ b o, X.base.get? b = some o → s1.heap.get? b = some o := fun b o q => hk b o (bk b o q)
    exact err_init2 R.O R.S R.T R.no R.no2 (fun kV doc pm an cdv ct cc => R.b _ kV doc pm an cdv ct cc _ _ _) hK (I1.ok.mod.glob.keeps kb) R.su (hbn.keeps kb) ((hbb _ (by decide +kernel)).trans (by decide +kernel)) (hlim.keeps hk) hx hnx (by have := hr.dp; omega) hq
  · exact mk_err R.O I1 M (relO_two rv ru) q1
end
end Sn

/-! ## Errors caught and kept: try .. except C as n: m = n; isinstance and attributes of what is kept -/
namespace Sn
open PySem PySem.Spec PyProof.Rows L2
/-- a caught error that is kept: its class, its dict -/
def ExK (cls : Value) (d : Option Addr) (a : Addr) : HO := .ext fun h => ∃ (oe : Obj) (vs : Array Value), h.get? a = some oe ∧ Zc cls d oe ∧ oe.data = .fields vs
theorem exK_at {P : Program} {w : World} {H : Hp} {h : Heap} {a : Addr} {cls : Value} {d : Option Addr} (x : HOk P w H h) (e : H a = some (ExK cls d a)) : ∃ (oe : Obj) (vs : Array Value), h.get? a = some oe ∧ Zc cls d oe ∧ oe.data = .fields vs := by
  have z : ObjOk P w H h a (.ext fun h => ∃ (oe : Obj) (vs : Array Value), h.get? a = some oe ∧ Zc cls d oe ∧ oe.data = .fields vs) := x a _ e
  exact z.1
section
variable {X : Cx} {pins : List (Addr × Obj)} {σ : L2.St} {H : Hp} {s : Shared}
/-- what was pinned is tracked -/
theorem inv_track {a : Addr} {oe : Obj} {vs : Array Value} {cls : Value} {d : Option Addr} (I : Inv X ((a, oe) :: pins) σ H s) (z : Zc cls d oe) (hd : oe.data = .fields vs) (h0 : X.s_0.heap.get? a = none) (np : ∀ p ∈ X.pn ++ pins, p.1 ≠ a) :
    Inv X pins σ (upd H a (ExK cls d a)) s := by
  obtain ⟨ha, na, nL, nF, _⟩ := I.pin (a, oe) (List.mem_append_right _ (List.mem_cons.mpr (.inl rfl)))
  have nb : ∀ {b : Addr} {o : Obj}, X.s_0.heap.get? b = some o → b ≠ a := fun {b o} e q => by rw [q, h0] at e; cases e
  have nt : ∀ {b : Addr} {o : HO}, H b = some o → b ≠ a := fun {b o} e q => by rw [q, na] at e; cases e
  have new : ObjOk X.prog X.w (upd H a (ExK cls d a)) s.heap a (ExK cls d a) :=
    ⟨⟨oe, vs, ha, z, hd⟩, ⟨oe, ha⟩, fun _ _ ⟨o, v, q, r⟩ k => ⟨o, v, k o q, r⟩⟩
  refine ⟨I.ok, I.os, I.bare, ⟨I.base.keep, I.base.slot, ?_, I.base.there, ?_, ?_, ?_⟩, I.loc, I.cell, ?_, ?_, ?_, ?_, I.len⟩
  · intro b o e n hx
    rw [upd_ne (nb e)]
    exact I.base.free b o e n hx
  · intro b xs e
    have q := I.base.tups b xs e
    rw [upd_ne (nt q)]; exact q
  · intro b o xs e
    have q := I.base.frzs b o xs e
    rw [upd_ne (nt q)]; exact q
  · intro b ps e
    obtain ⟨m, q⟩ := I.base.tbls b ps e
    exact ⟨m, by rw [upd_ne (nt q)]; exact q⟩
  · rw [upd_ne nL.symm]; exact I.free
  · intro x c e
    obtain ⟨v, o, ho, hc⟩ := I.cell x c e
    have nc : c ≠ a := fun q => by
      rw [q, ha] at ho
      cases ho
      rw [hd] at hc
      cases hc
    rw [upd_ne nc]; exact I.freeC x c e
  · intro p hp
    have mem : p ∈ X.pn ++ ((a, oe) :: pins) := by
      rcases List.mem_append.mp hp with q | q
      · exact List.mem_append_left _ q
      · exact List.mem_append_right _ (List.mem_cons_of_mem _ q)
    obtain ⟨e1, e2, e3, e4, e5⟩ := I.pin p mem
    exact ⟨e1, by rw [upd_ne (np p hp)]; exact e2, e3, e4, e5⟩
  · intro b u e
    by_cases hb : b = a
    · subst hb
      rw [upd_same] at e
      cases e
      exact new
    · rw [upd_ne hb] at e
      exact (I.hok b u e).stay (fun _ _ _ q => q) (fun c q => by rw [upd_ne (nt q)]; exact q) fun c xs q => by rw [upd_ne (nt q)]; exact q
/-- how the suite ends: next, the error is tracked -/
abbrev kpEnds (D : Ends) (i : Nat) (a : Addr) (cls : Value) (d : Option Addr) : Ends :=
  { nx := fun σ' H' => H' a = none → D.nx (σ'.set i none) (upd H' a (ExK cls d a)), rt := fun _ _ => False, bk := fun _ _ => False, ct := fun _ _ => False }
/-- what the clause wishes of an error of the body: it is of the class, and the suite runs -/
def wKp (K : PySem.W.Frag) (c : Value) (i : Nat) (ts : Addr → Value → Option Addr → TS) (D : Ends) : WX := fun cls d σ H =>
  PySem.W.exmOne K cls c = some true ∧ ∀ a, H a = none → ts a cls d (kpEnds D i a cls d) (σ.set i (some (.ref a))) H
/-- try: body / except x as n: suite, where the suite keeps the error -/
theorem ps_try_keep {x n : Str} {c : Value} {i : Nat} {body suite : List Stmt} {b₀ : Stmt} {np pos pos' : Pos} {tb : WX → TS} {ts : Addr → Value → Option Addr → TS}
    (hs : X.stack = X.env :: X.outer) (hf : X.env.frame = some X.env.locals) (hex : X.ex = []) (hN : X.N.Nodup) (hi : X.N[i]? = some n) (hln : X.env.kindOf n = some .local) (hc : L2.Names X x c)
    (hb : ∀ (W : WX) (pn : List (Addr × Obj)) (xe : Value → Shared → Prop), Takes (X.tr pn xe) W → PassesOwn (model X.prog X.w) X.A X.env xe → PSs (X.tr pn xe) body (tb W))
    (hsu : ∀ (a : Addr) (oe : Obj) (cls : Value) (d : Option Addr) (pn : List (Addr × Obj)), Zc cls d oe → (∃ vs, oe.data = .fields vs) → PSs (X.suite a ((a, oe) :: pn)) (b₀ :: suite) (ts a cls d)) :
    PS X (.Try body [.ExceptHandler (some (.Name x np)) (some n) (b₀ :: suite) pos'] [] [] pos) (fun D σ H => tb (wKp X.K c i ts D) D σ H) := by
  refine ⟨fun pins s σ H D I h => ?_⟩
  have okX := I.ok
  have frm : X.A.frames = some (X.env :: X.outer) := okX.frames.trans (by rw [hs])
  refine wpAny_Try_except ?_
  have run := (hb (wKp X.K c i ts D) (X.pn ++ pins) (fun e s1 => wpAny (model X.prog X.w) X.A (noteFrame e X.env) (fun _ s2 => wpAny (model X.prog X.w) X.A (setFlight e none)
    (fun _ s3 => wpAny (model X.prog X.w) X.A (handleBy e X.env [.ExceptHandler (some (.Name x np)) (some n) (b₀ :: suite) pos']) (SP X pins D) X.xe s3) X.xe s2) X.xe s1) ?caught PassesOwn.looking).run [] s σ H D (I.toTry _) h
  case caught =>
    rintro u s1 ⟨a, B, sI, pins', σ1, H1, cls, d, rfl, J0, nb, up, sky, na, os, ag, hyes, hsuite⟩
    have J : Inv X pins σ1 H1 sI := J0.ofTry okX
    rw [hs] at sky
    refine Sky.land Zc.steady frm hf sky fun h2 fl2 up2 => ?_
    obtain ⟨o2, v2, g2, z2, d2⟩ := fl2.there
    have nst : a ∉ frs (X.env :: X.outer) := fun hm => by
      obtain ⟨_, o, g, no⟩ := fl2.2.2.1.mem hm
      rw [g2] at g
      cases g
      exact no _ d2
    have nL : a ≠ X.env.locals := fun q => nst (List.mem_filterMap.mpr ⟨X.env, List.mem_cons.mpr (.inl rfl), by rw [hf, q]⟩)
    have nF : a ∉ X.fs := fun hm => by
      obtain ⟨e, he, q⟩ := List.mem_filterMap.mp hm
      exact nst (List.mem_filterMap.mpr ⟨e, List.mem_cons_of_mem _ he, q⟩)
    have nB : B.get? a = none := fl2.2.1
    -- nothing of the entry stands at a, nor a pin
    have onB : ∀ {b : Addr} {o : Obj}, sI.heap.get? b = some o → b ∉ frs X.stack → b ≠ a := fun {b o} e hb q => by
      have := nb b o e hb
      rw [q, nB] at this; cases this
    have fr0 : X.s_0.heap.get? a = none := by
      cases e : X.s_0.heap.get? a with
      | none => rfl
      | some o =>
        obtain ⟨o', e'⟩ := J.base.there a o e (by rw [hex]; simp)
        exact absurd rfl (onB e' (by rw [hs]; exact nst))
    have npn : ∀ p ∈ X.pn ++ pins, p.1 ≠ a := fun p hp => by
      obtain ⟨e1, _, e3, e4, _⟩ := J.pin p hp
      refine onB e1 fun hm => ?_
      rw [hs] at hm
      obtain ⟨v, hv, q⟩ := List.mem_filterMap.mp hm
      rcases List.mem_cons.mp hv with rfl | hv
      · rw [hf] at q
        exact e3 (Option.some.inj q).symm
      · exact e4 (List.mem_filterMap.mpr ⟨v, hv, q⟩)
    have J2 : Inv X pins σ1 H1 { s1 with heap := h2 } := J.landed nb fl2.1 (up.trans up2) os ag
    have S2 := J2.suite g2 d2 na nL nF
    refine wpAny_handleBy_cons (codeAny_handlers_test ?_) (by intro q; cases q)
    have ty : PySem.W.Looks (model X.prog X.w) h2 (typeOf (.ref a)) cls := fun A' Q' E' s' k q => wpAny_typeOf_ref (k _ _ g2) (by rw [z2.1]; exact q)
    have hit := PySem.W.exm_one (M := model X.prog X.w) J2.kIn ty hyes
    have name : ∀ {Q : Value → Shared → Prop} {E : Value → Shared → Prop}, Q c { s1 with heap := h2 } → wpAny (model X.prog X.w) (X.A.mark (some (.ref a))) (eval (.Name x np) X.env) Q E { s1 with heap := h2 } := by
      intro Q E q
      obtain ⟨hg, hdb, hm | ⟨hm, hv, hnn⟩⟩ := hc
      · exact ld_glob (X := X.suite a ((a, o2) :: (X.pn ++ pins))) S2 hg hm q hdb
      · exact ld_blt (X := X.suite a ((a, o2) :: (X.pn ++ pins))) S2 hg hm hv q hnn hdb
    refine name (hit.here (codeAny_handlers_suite_as ?_))
    refine HandSPX.lands_againZ fl2 fun h3 fl3 up3 => ?_
    obtain ⟨o3, v3, g3, z3, d3⟩ := fl3.there
    have J3 : Inv X pins σ1 H1 { s1 with heap := h3 } := J.landed nb fl3.1 ((up.trans up2).trans up3) os ag
    have S3 := J3.suite g3 d3 na nL nF
    refine store_ok (X := X.suite a ((a, o3) :: (X.pn ++ pins))) (v := .ref a) S3 hN hi (.inl hln) rfl (fun s4 S4 => ?_) (.inr hln)
    refine wpAny_mono ((hsu a o3 cls d (X.pn ++ pins) z3 ⟨_, d3⟩).run [] s4 _ H1 _ S4 (hsuite a na)) (fun f s5 q5 => ?_) fun _ _ q => False.elim q
    match f, q5 with
    | .next, ⟨σ5, H5, S5, q5⟩ =>
      have J5 : Inv X ((a, o3) :: pins) σ5 H5 s5 := by
        refine ⟨okX, S5.os, S5.bare, S5.base, S5.loc, S5.cell, S5.free, S5.freeC, fun p hp => S5.pin p ?_, S5.hok, S5.len⟩
        rw [List.append_nil]
        rcases List.mem_append.mp hp with q | q
        · exact List.mem_cons_of_mem _ (List.mem_append_left _ q)
        · rcases List.mem_cons.mp q with q | q
          · rw [q]; exact List.mem_cons.mpr (.inl rfl)
          · exact List.mem_cons_of_mem _ (List.mem_append_right _ q)
      refine gone_ok J5 hN hi hln fun s6 J6 => ?_
      have nH : H5 a = none := (J6.pin (a, o3) (List.mem_append_right _ (List.mem_cons.mpr (.inl rfl)))).2.1
      exact ⟨_, _, inv_track J6 z3 d3 fr0 npn, q5 nH⟩
    | .brk, ⟨_, _, _, q5⟩ => exact q5.elim
    | .cont, ⟨_, _, _, q5⟩ => exact q5.elim
    | .ret _, ⟨_, _, _, _, _, q5⟩ => exact q5.elim
  refine wpAny_mono run (fun f s1 q => ?_) fun _ _ q => q
  match f, q with
  | .next, ⟨σ1, H1, J1, q⟩ => exact wpAny_execs_nil ⟨σ1, H1, J1.ofTry okX, q⟩
  | .brk, ⟨σ1, H1, J1, q⟩ => exact ⟨σ1, H1, J1.ofTry okX, q⟩
  | .cont, ⟨σ1, H1, J1, q⟩ => exact ⟨σ1, H1, J1.ofTry okX, q⟩
  | .ret u, ⟨v, σ1, H1, J1, r, q⟩ => exact ⟨v, σ1, H1, J1.ofTry okX, r, q⟩
/-- the dict of a kept error stands -/
def XdOk (H : Hp) (d : Option Addr) : Prop := d = none ∨ ∃ dd fs, d = some dd ∧ H dd = some (.xd fs)
theorem exK_inst {a D : Addr} {d : Option Addr} (I : Inv X pins σ H s) (e : H a = some (ExK (.ref D) d a)) (hd : XdOk H d) : ∃ ox od, PySem.W.InstAt s.heap a ox D od := by
  obtain ⟨oe, vs, g, ⟨z1, z2⟩, dt⟩ := exK_at I.hok e
  have nc : PySem.W.notCls oe = true := by unfold PySem.W.notCls; rw [dt]
  rcases hd with rfl | ⟨dd, fs, rfl, hx⟩
  · exact ⟨oe, none, g, z1, nc, by rw [z2]; trivial⟩
  · obtain ⟨mA, ⟨od, es, ep, ho, _⟩, _⟩ := (show ObjOk X.prog X.w H s.heap dd (.xd fs) from I.hok dd _ hx)
    exact ⟨oe, some od, g, z1, nc, by rw [z2]; exact ho⟩
/-- isinstance(e, c), e a kept error -/
def rIsX (K : PySem.W.Frag) : List V → Hp → VK → Prop := fun xs H Q => ∃ (a D : Addr) (d : Option Addr) (c : V) (cv : Value) (b : Bool), xs = [.ref a, c] ∧ H a = some (ExK (.ref D) d a) ∧ XdOk H d ∧ ExcC K D ∧ ClsV c cv ∧
  PySem.W.kitOne K (.ref D) cv = some b ∧ Q (.bl b) H
theorem call_isX : CallR X (.builtin "isinstance") (rIsX X.K) := by
  intro pins s σ H xs us Q I r h
  obtain ⟨a, D, d, c, cv, b, rfl, ha, hd, C, kc, e, q⟩ := h
  obtain ⟨u1, u2, rfl, r1, r2⟩ := vals2 r
  cases r1
  have ec := kc.eq r2
  subst ec
  obtain ⟨ox, od, J⟩ := exK_inst I ha hd
  have hcl : (PySem.W.clsIn X.K D).isSome = true := by
    obtain ⟨cd, hc, _⟩ := PySem.W.any_some C.hd
    rw [hc]; rfl
  exact PySem.W.kia_one (PySem.W.kitx_exc hcl C.hg C.hk C.hs C.ha C.hn C.ht C.hm) I.kIn J e (fun z => nomatch z) fun tk => ⟨.bl b, H, I.tok tk, rfl, q⟩
/-- e.f, e a kept error -/
def tXk (K : PySem.W.Frag) (f : Str) (te : TE) : TE := fun σ H Q => te σ H fun x H1 => ∃ (a C dd : Addr) (fs : List (Str × V)) (v : V), x = .ref a ∧ H1 a = some (ExK (.ref C) (some dd) a) ∧ H1 dd = some (.xd fs) ∧ fs.lookup f = some v ∧
  XfC K C ∧ PySem.W.findIn K (.ref C) f = some none ∧ Q v H1
theorem pe_xk {e : Expr} {te : TE} {pos : Pos} {f : Str} (he : PE X e te) (hb : attributeBase e f X.env (eval e X.env) = eval e X.env := by rfl) : PE X (.Attribute e f pos) (tXk X.K f te) := by
  refine ⟨fun pins s σ H Q I h => attr_of hb (thn (he.run pins s σ H _ I h) ?_)⟩
  rintro u s1 ⟨y, H1, I1, ry, a, C, dd, fs, v, rfl, ha, hx, l, T, hno, q⟩
  cases ry
  obtain ⟨oe, vs, g, ⟨z1, z2⟩, dt⟩ := exK_at I1.hok ha
  obtain ⟨mA, hns, rel⟩ := (show ObjOk X.prog X.w H1 s1.heap dd (.xd fs) from I1.hok dd _ hx)
  obtain ⟨od, ho, hl⟩ := lookIn_ns hns
  obtain ⟨u, hu, ru⟩ := RelO.some_of (v := v) (o := mA f) (by rw [← l]; exact rel f)
  have J : PySem.W.InstAt s1.heap a oe C (some od) := ⟨g, z1, by unfold PySem.W.notCls; rw [dt], by rw [z2]; exact ho⟩
  exact HandSPX.exc_get I1.kIn J T.ga T.gg T.exC (PySem.W.findObj_own T.hdC hno rfl (by rw [hl, hu])) (handed_of ru) ⟨v, H1, I1.tok _, ru, q⟩
end
end Sn

/-! ## Rules of our own: bool(o), o == v of any v, repr of scalars -/
namespace Sn
open PySem PySem.Spec PyProof.Rows L2
def isTy : Value → Bool
  | .type _ => true
  | _ => false
/-- a built-in type is no own class -/
theorem sub_own {K : PySem.W.Frag} {T : String} (C : Addr) (h : ((fastBuiltinMro T).map fun l => l.all isTy) = some true) : PySem.W.subIn K (.type T) (.ref C) = some false := by
  show (fastBuiltinMro T).map (·.contains (.ref C)) = _
  cases e : fastBuiltinMro T with
  | none => rw [e] at h; cases h
  | some l =>
    rw [e] at h
    have hl : l.all isTy = true := Option.some.inj h
    show some (l.contains (.ref C)) = _
    congr 1
    refine Bool.eq_false_iff.mpr fun q => ?_
    have := List.all_eq_true.mp hl _ (List.contains_iff_mem.mp q)
    cases this
theorem kit_not {K : PySem.W.Frag} {T : String} {C : Addr} (hc : (PySem.W.clsIn K C).isSome = true) (ht : PySem.W.typeIn K (.ref C) = some (.type "type")) (h : PySem.W.subIn K (.type T) (.ref C) = some false) : PySem.W.kitOne K (.type T) (.ref C) = some false := by
  unfold PySem.W.kitOne PySem.W.kitCls
  rw [if_neg (by simp)]
  show (if ((PySem.W.clsIn K C).isSome && PySem.W.typeIn K (.ref C) == some (.type "type")) = true then PySem.W.subIn K (.type T) (.ref C) else none) = _
  rw [if_pos (by rw [hc, ht]; rfl)]
  exact h
/-- a value of a built-in type that is met in the laws -/
inductive TyB (K : PySem.W.Frag) (H : Hp) : V → String → Prop
  | non : TyB K H .non "NoneType"
  | bl (b : Bool) : TyB K H (.bl b) "bool"
  | int (i : Int) : TyB K H (.int i) "int"
  | str (z : Str) : TyB K H (.str z) "str"
  | lst {a : Addr} {xs : List V} (h : H a = some (.lst xs)) : TyB K H (.ref a) "list"
  | tup {a : Addr} {xs : List V} (h : H a = some (.tup xs)) : TyB K H (.ref a) "tuple"
  | dK {a : Addr} {kvs : List (Key × V)} (h : H a = some (.dK kvs)) : TyB K H (.ref a) "dict"
theorem TyB.ty {K : PySem.W.Frag} {H : Hp} {v : V} {T : String} (h : TyB K H v T) : TyX K H v (.type T) := by
  cases h with
  | non => exact .base .non
  | bl b => exact .base (.bl b)
  | int i => exact .base (.int i)
  | str z => exact .base (.str z)
  | lst h => exact .base (.lst h)
  | tup h => exact .base (.tup h)
  | dK h => exact .base (.dK h)
theorem TyB.sub {K : PySem.W.Frag} {H : Hp} {v : V} {T : String} (h : TyB K H v T) (C : Addr) : PySem.W.subIn K (.type T) (.ref C) = some false := by
  cases h <;> exact sub_own C (by decide +kernel)
theorem TyB.same {K : PySem.W.Frag} {H H' : Hp} {v : V} {T : String} (h : TyB K H v T) (s : Same H H') : TyB K H' v T := by
  cases h with
  | non => exact .non
  | bl b => exact .bl b
  | int i => exact .int i
  | str z => exact .str z
  | lst h => exact .lst (s _ _ h)
  | tup h => exact .tup (s _ _ h)
  | dK h => exact .dK (s _ _ h)
section
variable {X : Cx} {CX : CXT} {k : Nat} {f C : Addr} {fd : FuncData} {ps : List Str} {sp : Sp} {E : XK}
/-- o == v, v of a built-in type, by an own __eq__ -/
theorem own_eqB (F : FnOk X.prog X.w X.K X.mg X.base CX k f fd ps sp) (hr : Room k X.A) (hs : PySem.W.findIn X.K (.ref C) "__eq__" = some (some (.ref f)))
    (hf : PySem.W.isFn X.K (.ref f) = true) (hb : Binds X.K fd ps []) (hx : Passes CX X E) :
    OpR X (compareOp .Eq) (fun x y H Q => ∃ a dx fs, x = .ref a ∧ H a = some (.ins C dx fs) ∧ ((∃ b dy gs, y = .ref b ∧ H b = some (.ins C dy gs)) ∨ ∃ T, TyB X.K H y T) ∧ sp [x, y] H (fun v H' => ∃ b, v = .bl b ∧ Q (.bl b) H') E) := by
  intro pins s σ H x y v u Q I rx ry h
  obtain ⟨a, dx, fs, rfl, ha, hy, q⟩ := h
  cases rx
  obtain ⟨ox, od, J⟩ := inst_at I ha
  obtain ⟨m, hF⟩ := I.fr
  have main : ∀ {tb : Value}, PySem.W.Looks (model X.prog X.w) s.heap (typeOf u) tb → PySem.W.notFirst X.K C tb = true → wpAny (model X.prog X.w) X.A (richCompare .Eq (.ref a) u) (EP X pins σ Q) X.xe s := by
    intro tb hty hnf
    refine PySem.W.cmp_K (op := .Eq) (tb := tb) hr.units0 hF I.ok.mod.kin J hty hnf hs hf ?_
    refine wpAny_mono (run_fn (us := [.ref a, u]) (vs := [.ref a, y]) F hr hb .nil hx I (.cons rfl (.cons ry .nil)) q) ?_ fun _ _ z => z
    rintro r s' ⟨z, H', I', rz, c, rfl, qq⟩
    cases rz
    exact ⟨.bl c, H', I', rfl, qq⟩
  show wpAny (model X.prog X.w) X.A (richCompare .Eq (.ref a) u) (EP X pins σ Q) X.xe s
  rcases hy with ⟨b, dy, gs, rfl, hb'⟩ | ⟨T, ht⟩
  · cases ry
    obtain ⟨oy, oe, J'⟩ := inst_at I hb'
    exact main J'.type (by simp [PySem.W.notFirst])
  · obtain ⟨P, Z, p, _⟩ := kit_of I ry ht.ty
    refine main (Z.ty _ _ I.kIn p) ?_
    unfold PySem.W.notFirst
    rw [ht.sub C]
    simp
/-- bool(o), by an own __bool__ -/
theorem own_bool (G : FnOk X.prog X.w X.K X.mg X.base CX k f fd ps sp) (hr : Room (k + 4) X.A) (hs : PySem.W.findIn X.K (.ref C) "__bool__" = some (some (.ref f)))
    (hf : PySem.W.isFn X.K (.ref f) = true) (hb : Binds X.K fd ps []) (hx : Passes CX X E) :
    CallR X (.type "bool") (fun xs H Q => ∃ a dx fs, xs = [.ref a] ∧ H a = some (.ins C dx fs) ∧ sp [.ref a] H (fun v H' => ∃ b, v = .bl b ∧ Q (.bl b) H') E) := by
  intro pins s σ H xs us Q I r h
  obtain ⟨a, dx, fs, rfl, ha, q⟩ := h
  obtain ⟨u, rfl, ru⟩ := vals1 r
  cases ru
  obtain ⟨ox, od, J⟩ := inst_at I ha
  obtain ⟨m, hF⟩ := I.fr
  refine ks_callType_codesW (Q₁ := fun obj s₁ => ∃ b H', obj = .bool b ∧ Inv X pins σ H' s₁ ∧ Q (.bl b) H') F.called_bool (fun h => wpAny_of_eq (F.typeCall_bool_1 _) h) F.entry_object_init ?_ ?_
  · refine codeAny_of_tree ?_
    show wpAny _ X.A.in1.in1 (do checkBuiltinCall "bool.__new__" ⟨[.type "bool", .ref a], []⟩; again (.builtin "bool.__new__" ⟨[.type "bool", .ref a], []⟩)) _ _ s
    refine wpAny_bind (wpAny_of_eq (F.newCall_bool_1 _) (wpAny_pure ⟨plainId_quiet (by decide +kernel) _, codeAny_builtin F.entry_bool_new ?_⟩))
    rw [Around.under_plainId (by decide +kernel) _]
    unfold Builtin.«bool.__new__»
    have f1 := F.conv_sub_bool
    have hl : (([Value.ref a] : List Value) ++ []).length = ps.length := by
      have := G.len _ _ _ _ q
      simpa using this
    have hbi := hb s [.ref a] I.kIn hl
    rw [List.append_nil] at hbi
    have tr : ∀ {Q' : Bool → Shared → Prop}, (∀ b s' H', Inv X pins σ H' s' → Q (.bl b) H' → Q' b s') → wpAny (model X.prog X.w) X.A.in1.in1 (truthy (.ref a)) Q' X.xe s := by
      intro Q' hQ'
      refine PySem.W.truthy_K hF I.ok.mod.kin J hs hf (wpAny_call (codeAny_mono (G.run X.A.in1.in1 X.stack s H ⟨[.ref a], []⟩ [.ref a] [.ref a] (fun v H' => ∃ b, v = .bl b ∧ Q (.bl b) H') E (hr.mono (j := k + 2) (by omega)).in1.in1 I.env0.in1.in1 hbi (.cons rfl .nil) q) ?_))
      intro r s' hq
      match r, hq with
      | .error e, hq => exact hx pins σ H s e s' I hq
      | .ok (.ret u), hq =>
        obtain ⟨z, H', I', rz, b, rfl, qq⟩ := I.after hq
        cases rz
        exact hQ' b s' H' I' qq
      | .ok .next, hq => exact False.elim hq
      | .ok .brk, hq => exact False.elim hq
      | .ok .cont, hq => exact False.elim hq
    have fin : ∀ {Q' : Bool → Shared → Prop} {E' : Value → Shared → Prop}, (∀ b s' H', Inv X pins σ H' s' → Q (.bl b) H' → Q' b s') → (∀ e s', X.xe e s' → E' e s') → wpAny (model X.prog X.w) X.A.in1.in1 (truthy (.ref a)) Q' E' s :=
      fun h1 h2 => wpAny_mono (tr h1) (fun _ _ z => z) h2
    obtain ⟨hp, g, d, tk, os⟩ := s
    repeat (any_goals (first | assumption | (with_reducible refine fin ?_ (fun _ _ z => z)) | wp_step))
    intro b s' H' I' qq
    exact wpAny_pure ⟨b, H', rfl, I', qq⟩
  · rintro obj s1 ⟨b, H', rfl, I', qq⟩
    refine ⟨rfl, F.args_object_init_2 _ _, ?_⟩
    exact object_init_meets F.called_bool.init.lookup F.called_bool.made F.newNe_bool _ _ _ _ _ ⟨rfl, rfl, .bl b, H', I', rfl, qq⟩
/-- repr of what is no container -/
def shV : V → Option Str
  | .non => some "None"
  | .bl b => some (if b then "True" else "False")
  | .int i => some (toString i)
  | _ => none
theorem call_reprS : CallR X (.builtin "repr") (fun xs H Q => ∃ (x : V) (z : Str), xs = [x] ∧ shV x = some z ∧ (∀ i, x = .int i → i.natAbs.log2 < 1920) ∧ Q (.str z) H) := by
  intro pins s σ H xs us Q I r h
  obtain ⟨x, z, rfl, hz, hi, q⟩ := h
  obtain ⟨u, rfl, ru⟩ := vals1 r
  cases x <;> first | (cases hz; done) | skip
  · cases ru
    cases hz
    exact PySem.P.repr_of_none ⟨.str _, H, I.tok _, ⟨_, rfl⟩, q⟩
  · cases ru
    cases hz
    exact PySem.P.repr_of_bool ⟨.str _, H, I.tok _, ⟨_, rfl⟩, q⟩
  · obtain ⟨t, rfl⟩ := ru
    cases hz
    exact PySem.P.repr_of_int (hi _ rfl) ⟨.str _, H, I.tok _, ⟨_, rfl⟩, q⟩
end
end Sn

/-! ## Own errors made with keywords: C(k = v), C(k = v, l = u) -/
namespace Sn
open PySem PySem.Spec PyProof.Rows L2
section
variable {prog : Program} {w : World} {A : Around} {R : Result → Shared → Prop} {h : Heap} {g : Array GenState} {dr : Drawn} {t : Nat} {os : OsState}
variable {nm q : Str} {C N fI : Addr} {bs bm : List Value} {sn : List Str} {sub : List Value} {ab : Bool} {col : Option Bool} {dd : Option Addr} {k0 k1 k2 k3 k5 : Option Value} {kw : List (Str × Value)}
open PySem.W PySem.HandSPX
/-- ValueError.__new__(C, k = v, ..): the keywords tell nothing -/
theorem newK (hT : ∀ X : String, bm.contains (.type X) = veTail.contains (.type X)) (hC : h.get? C = some (excClassObj nm q C N bs bm true sn sub ab col dd k0 k1 k2 k3 k5 "ValueError.__new__"))
    (hq : R (.ok (.ret (.ref (h.objs.size + 1)))) ⟨(h.push (kdv_tup [])).push (excO C h.objs.size), g, dr, t, os⟩) :
    codeAny (model prog w) A (.call (.builtin "ValueError.__new__") ⟨[.ref C], kw⟩) R ⟨h, g, dr, t, os⟩ := by
  have FF := F.excBase_ValueError
  have hst := FF.noStar
  have hends := FF.ends
  have hcB : (Value.ref C :: bm).contains (.type "ValueError") = true := by rw [List.contains_cons, hT, FF.hasB, Bool.or_true]
  have hcA : (Value.ref C :: bm).contains (.type "AttributeError") = false := by rw [List.contains_cons, hT, FF.noAttr]; rfl
  have hcN : (Value.ref C :: bm).contains (.type "NameError") = false := by rw [List.contains_cons, hT, FF.noName]; rfl
  refine codeAny_call_builtin_code (Code.quiet_builtin _ FF.quiet) ?_
  simp only [checkBuiltinCall, FF.newKind, FF.newSplit, FF.newRow]
  repeat (first | refine wpAny_loadPart_at hC ?_ | (refine wpAny_isSubtype_exc hC ?_; rw [hcB]) | refine wpAny_staticBase_exc hC ?_ | refine wpAny_madeBy_exc hC ?_ | simp only [bne_self_eq_false, Bool.false_eq_true, if_false] | wp_step)
  refine codeAny_builtinAt FF.entry ?_
  unfold Builtin.«BaseException.__new__»
  refine PySem.wpAt_bind ?_
  show PySem.wpAt _ _ _ (stack >>= _) _ _ _
  refine PySem.wpAt_bind (PySem.wpAt_stack fun p below => PySem.wpAt_of_wpAny ?_)
  wp_walk
  refine PySem.wpAt_of_wpAny ?_
  rw [FF.owner]
  repeat (first | with_reducible refine wpAny_madeHere_exc FF.canon hC ?_ | with_reducible refine wpAny_loadPart_at hC ?_ | (with_reducible refine wpAny_isSubtype_exc hC ?_; first | rw [hcB] | rw [hcA] | rw [hcN]) | wp_step)
  show R _ _
  rw [Heap.size_push]
  exact hq
/-- C(k = v, ..): the record, then the own __init__ -/
theorem callK (hT : ∀ X : String, bm.contains (.type X) = veTail.contains (.type X)) (hC : h.get? C = some (excClassObj nm q C N bs bm true sn sub ab col dd k0 k1 k2 k3 k5 "ValueError.__new__"))
    (hi : Looks (model prog w) h (typeLookup (.ref C) "__init__") (some (.ref fI))) (hb : ∀ self, Looks (model prog w) h (bindSpecial (.ref fI) self) (.ref fI, [self]))
    (hq : codeAny (model prog w) (A.under (.builtin "type.__call__" ⟨[.ref C], kw⟩)) (.call (.ref fI) ⟨[.ref (h.objs.size + 1)], kw⟩) (InitBack (h.objs.size + 1) R) ⟨(h.push (kdv_tup [])).push (excO C h.objs.size), g, dr, t, os⟩) :
    codeAny (model prog w) A (.call (.ref C) ⟨[], kw⟩) R ⟨h, g, dr, t, os⟩ := by
  have f1 := tc_lookup
  have f2 := tc_bind (.ref C)
  have hTy : (⟨h, g, dr, t, os⟩ : Shared).TypeIs (.ref C) "type" := ⟨_, hC, rfl⟩
  have typ : Looks (model prog w) h (isInstance (.ref C) (.type "type")) true := by
    intro A' Q E s k z
    unfold isInstance
    refine wpAny_bind (wpAny_typeOf_ref (k _ _ hC) ?_)
    rw [show isSubtype (.type "type") (.type "type") = pure true from tc_sub]
    exact wpAny_pure z
  refine codeAny_of_tree ?_
  show wpAny _ _ (callAny (.ref C) _) _ _ _
  repeat (any_goals (first | assumption | with_reducible refine wpAny_loadPart_at hC ?_ | wp_step))
  refine ⟨rfl, ?_⟩
  refine codeAny_call_builtin_at (Code.quiet_builtin _ (by decide +kernel)) entry_typeCall (check_slot tc_kind tc_split typ (tc_args _ _ _) ?_)
  repeat (first | with_reducible refine wpAny_loadPart_at hC ?_ | with_reducible refine wpAny_madeBy_exc hC ?_ | wp_step)
  refine newK hT hC ?_
  show wpAny _ _ _ _ _ _
  have k : ∀ b o, h.get? b = some o → ((h.push (kdv_tup [])).push (excO C h.objs.size)).get? b = some o := fun b o e => Heap.get?_push_of_some _ (Heap.get?_push_of_some _ e)
  have hC' := k _ _ hC
  have hget : ((h.push (kdv_tup [])).push (excO C h.objs.size)).get? (h.objs.size + 1) = some (excO C h.objs.size) := by heap_get
  have hcC : (Value.ref C :: bm).contains (.ref C) = true := by simp
  have i1 := hi.keeps k
  have b1 := (hb (.ref (h.objs.size + 1))).keeps k
  unfold isInstance
  repeat (first | with_reducible refine wpAny_loadPart_at hget ?_ | (with_reducible refine wpAny_isSubtype_exc hC' ?_; rw [hcC]) | wp_step)
  show wpAny _ _ (typeLookup (.ref C) _) _ _ _
  refine i1.at ?_
  refine wpAny_holding (wpAny_bind (b1.at ?_))
  refine wpAny_bind (wpAny_call (codeAny_mono hq fun r s' z => ?_))
  rcases r with e | (v | _ | _ | _) <;> first | exact z | exact z.elim | skip
  obtain ⟨rfl, z⟩ := z
  first
    | exact wpAny_pure (wpAny_pure z)
    | (wp_walk; exact z)
end
section
variable {prog : Program} {w : World} {A : Around} {R : Result → Shared → Prop} {s : Shared} {K : PySem.W.Frag} {C fI : Addr}
open PySem.W PySem.HandSPX
/-- the error that is made with keywords -/
theorem err_madeK {kw : List (Str × Value)} {ms : Str → Option Value} (O : OexC K C) (iC : findIn K (.ref C) "__init__" = some (some (.ref fI))) (tI : typeIn K (.ref fI) = some (.type "function")) (X : K.In s.heap)
    (hi : ∀ (A1 : Around) (R1 : Result → Shared → Prop) (s1 : Shared) (x t0 : Addr), A1.depth = A.depth + 1 → K.In s1.heap → (∀ b o, s.heap.get? b = some o → s1.heap.get? b = some o) → s1.heap.get? x = some (excO C t0) → K.lookup x = none →
      (∀ h' tk dx t1, ErrEnd s1.heap h' x C dx t1 ms → R1 (.ok (.ret .none)) { s1 with heap := h', toks := tk }) → codeAny (model prog w) A1 (.call (.ref fI) ⟨[.ref x], kw⟩) R1 s1)
    (hq : ∀ h' tk e d, ErrMade s.heap h' e C d ms → R (.ok (.ret (.ref e))) { s with heap := h', toks := tk }) :
    codeAny (model prog w) A (.call (.ref C) ⟨[], kw⟩) R s := by
  obtain ⟨nm, q, N, bs, bm, sn, sub, ab, col, dd, k0, k1, k2, k3, k5, hC, hbm⟩ := O.cls
  obtain ⟨hp, g, dr, tk, os⟩ := s
  have k : ∀ b o, hp.get? b = some o → ((hp.push (kdv_tup [])).push (excO C hp.objs.size)).get? b = some o := fun b o e => Heap.get?_push_of_some _ (Heap.get?_push_of_some _ e)
  have hget : ((hp.push (kdv_tup [])).push (excO C hp.objs.size)).get? (hp.objs.size + 1) = some (excO C hp.objs.size) := by heap_get
  have hnx : K.lookup (hp.objs.size + 1) = none := by
    cases e : K.lookup (hp.objs.size + 1) with
    | none => rfl
    | some o =>
      have z : hp.get? (hp.objs.size + 1) = some o := X _ _ e
      exact absurd (Nat.lt_of_succ_lt (Heap.lt_size z)) (Nat.lt_irrefl _)
  refine callK (fun X => refsVE_contains X bm hbm) (X _ _ hC) (looks_findIn X iC) (fun self => bind_fn X self tI) ?_
  refine hi _ _ ⟨(hp.push (kdv_tup [])).push (excO C hp.objs.size), g, dr, tk, os⟩ (hp.objs.size + 1) hp.objs.size rfl (X.keeps k) k hget hnx fun h' tk' dx t1 ⟨k', hx, dn, dne, hns⟩ => ?_
  have old : ∀ b o, hp.get? b = some o → h'.get? b = some o := fun b o e => k' b o (Nat.ne_of_lt (Nat.lt_succ_of_lt (Heap.lt_size e))) (k b o e)
  have z : hp.objs.size + 1 + 1 ≤ dx := by
    have q := dn
    rw [Heap.size_push, Heap.size_push] at q
    exact q
  exact ⟨rfl, hq h' tk' (hp.objs.size + 1) dx ⟨old, Nat.le_succ _, ⟨_, _, hx, rfl, rfl, rfl, rfl⟩, Nat.le_trans (Nat.le_trans (Nat.le_succ _) (Nat.le_succ _)) z, dne, hns⟩⟩
end
section
variable {X : Cx} {x f f2 qual : Str} {C fI : Addr} {st : Stmt} {kws : List Keyword} {tk : TA} {p pos : Pos} {k : Nat}
/-- C(f = e) -/
theorem pmk_errK1 (R : Err1 X.prog X.K X.mg x C fI st qual f) (hr : Room k X.A) (hg : Gl X x) (hkw : PK X kws tk)
    (hb : ∀ (s : Shared) (kV doc pm : Value) (an : Option Addr) (cdv ct : Value) (cc : Addr) (a v : Value), BindsTo s (PySem.W.ksFn "__init__" qual (defArgs st) (defBody st) (defScope st) .none kV doc pm an cdv ct cc) ⟨[a], [(f, v)]⟩ [("self", a), (f, v)])
    (hall : (backToKw pos (keywordEach kws X.env)).all (·.1.isSome) = true := by rfl) (hks : (backToKw pos (keywordEach kws X.env)).filterMap (·.1) = [f] := by rfl) (hdb : (x == ("__debug__" : Str)) = false := by decide)
    (hpl : ((backTo pos (starEach [] X.env)).any (·.1) || (backToKw pos (keywordEach kws X.env)).any (·.1.isNone)) = false := by rfl) :
    PMk X (.Call (.Name x p) [] kws pos) (tMkE1 C f tk) := by
  intro pins s σ H Q I h
  refine wpAny_Call_Name_kw (ld_glob I hg R.g ?_ hdb)
  refine PySem.W.callWith_KW0 (h₀ := X.base) I.ok.mod.kin R.O.kC hall ?_ hpl
  refine thn (hkw.run pos pins s σ H _ I h) ?_
  rintro us s1 ⟨vs, H1, I1, r1, v, rfl, q1⟩
  refine ⟨I1.kIn, ?_⟩
  rw [hks]
  obtain ⟨u, rfl, rv⟩ := vals1 r1
  obtain ⟨mb, hbn, hbb⟩ := I1.ok.mod.blt
  have bk := I1.bk
  have hlim := I1.nolimit
  obtain ⟨hp, g, dr, tk, os⟩ := s1
  refine wpAny_call (err_madeK R.O R.iC R.tI I1.kIn (ms := fun y => if y = f then some u else none) ?_ fun h' tk' er d M => ?_)
  · intro A1 R1 s1 y t0 hd hK hk hx hnx hq
    have kb : ∀ b o, X.base.get? b = some o → s1.heap.get? b = some o := fun b o q => hk b o (bk b o q)
    exact err_init1 R.O R.S R.T R.no (fun kV doc pm an cdv ct cc => hb _ kV doc pm an cdv ct cc _ _) hK (I1.ok.mod.glob.keeps kb) R.su (hbn.keeps kb) ((hbb _ (by decide +kernel)).trans (by decide +kernel)) (hlim.keeps hk) hx hnx (by have := hr.dp; omega) hq
  · exact mk_err R.O I1 M (relO_one rv) q1
/-- C(f2 = e, f = e') -/
def tMkEK2 (C : Addr) (f f2 : Str) (ta : TA) : L2.St → Hp → XK → Prop := fun σ H Q => ta σ H fun vs H1 => ∃ u v, vs = [u, v] ∧ ∀ d, H1 d = none → Q (.ref C) (some d) (upd H1 d (.xd [(f2, u), (f, v)]))
theorem pmk_errK2 (R : Err2 X.prog X.K X.mg x C fI st qual f f2) (hr : Room k X.A) (hg : Gl X x) (hkw : PK X kws tk)
    (hb : ∀ (s : Shared) (kV doc pm : Value) (an : Option Addr) (cdv ct : Value) (cc : Addr) (a v u : Value), BindsTo s (PySem.W.ksFn "__init__" qual (defArgs st) (defBody st) (defScope st) .none kV doc pm an cdv ct cc) ⟨[a], [(f2, u), (f, v)]⟩ [("self", a), (f, v), (f2, u)])
    (hall : (backToKw pos (keywordEach kws X.env)).all (·.1.isSome) = true := by rfl) (hks : (backToKw pos (keywordEach kws X.env)).filterMap (·.1) = [f2, f] := by rfl) (hdb : (x == ("__debug__" : Str)) = false := by decide)
    (hpl : ((backTo pos (starEach [] X.env)).any (·.1) || (backToKw pos (keywordEach kws X.env)).any (·.1.isNone)) = false := by rfl) :
    PMk X (.Call (.Name x p) [] kws pos) (tMkEK2 C f f2 tk) := by
  intro pins s σ H Q I h
  refine wpAny_Call_Name_kw (ld_glob I hg R.g ?_ hdb)
  refine PySem.W.callWith_KW0 (h₀ := X.base) I.ok.mod.kin R.O.kC hall ?_ hpl
  refine thn (hkw.run pos pins s σ H _ I h) ?_
  rintro us s1 ⟨vs, H1, I1, r1, u0, v0, rfl, q1⟩
  refine ⟨I1.kIn, ?_⟩
  rw [hks]
  obtain ⟨u', v', rfl, ru, rv⟩ := vals2 r1
  obtain ⟨mb, hbn, hbb⟩ := I1.ok.mod.blt
  have bk := I1.bk
  have hlim := I1.nolimit
  obtain ⟨hp, g, dr, tk, os⟩ := s1
  refine wpAny_call (err_madeK R.O R.iC R.tI I1.kIn (ms := fun y => if y = f2 then some u' else if y = f then some v' else none) ?_ fun h' tk' er d M => ?_)
  · intro A1 R1 s1 y t0 hd hK hk hx hnx hq
    have kb : ∀ b o, X.base.get? b = some o → s1.heap.get? b = some o := fun b o q => hk b o (bk b o q)
    exact err_init2 R.O R.S R.T R.no R.no2 (fun kV doc pm an cdv ct cc => hb _ kV doc pm an cdv ct cc _ _ _) hK (I1.ok.mod.glob.keeps kb) R.su (hbn.keeps kb) ((hbb _ (by decide +kernel)).trans (by decide +kernel)) (hlim.keeps hk) hx hnx (by have := hr.dp; omega) hq
  · exact mk_err R.O I1 M (relO_two rv ru) q1
end
end Sn

namespace Sn
open PySem PySem.Spec PyProof.Rows L2
def top (i : Nat) : Stmt := PySem.Challenge.pw_sparenames_k01_errors_apart.main.body.getD i (.Pass ⟨0, 0, 0, 0⟩)
abbrev s_BadPath_init : Stmt := inClass (top 2) 0
abbrev s_BadText_init : Stmt := inClass (top 3) 0
abbrev s_BadModule_init : Stmt := inClass (top 5) 0
abbrev s_NoModule_init : Stmt := inClass (top 6) 0
abbrev s_BadKind_init : Stmt := inClass (top 7) 0
abbrev s_BadAnswer_init : Stmt := inClass (top 10) 0
abbrev s_BadFaded_init : Stmt := inClass (top 12) 0
abbrev s_NoDefinition_init : Stmt := inClass (top 16) 0
abbrev s_Used_init : Stmt := inClass (top 19) 0
abbrev s_BadEdit_init : Stmt := inClass (top 20) 0
abbrev s_law_begun : Stmt := top 22
abbrev s_law_mixed : Stmt := top 23
abbrev s_law_take : Stmt := top 24
abbrev s_law_pick : Stmt := top 25
abbrev s_law_with_number : Stmt := top 26
abbrev s_law_with_thing : Stmt := top 27
abbrev s_law_with_message : Stmt := top 28
abbrev s_law_raised : Stmt := top 29
abbrev s_law_marks : Stmt := top 30
abbrev s_law_kept : Stmt := top 31
abbrev s_law : Stmt := top 32
abbrev n_law_begun : List Str := ["_law_script", "_law_great", "_law_cell"]
theorem sc_law_begun : FnScope n_law_begun ["_law_script"] (defScope s_law_begun) := ⟨rfl, rfl, rfl, by decide +kernel, rfl, by decide +kernel, by decide +kernel⟩
abbrev n_law_mixed : List Str := ["_law_state", "_law_found", "_law_prime", "_law_blend", "_law_cell"]
theorem sc_law_mixed : FnScope n_law_mixed ["_law_state"] (defScope s_law_mixed) := ⟨rfl, rfl, rfl, by decide +kernel, rfl, by decide +kernel, by decide +kernel⟩
abbrev n_law_take : List Str := ["_law_state", "_law_size", "_law_found"]
theorem sc_law_take : FnScope n_law_take ["_law_state", "_law_size"] (defScope s_law_take) := ⟨rfl, rfl, rfl, by decide +kernel, rfl, by decide +kernel, by decide +kernel⟩
abbrev n_law_pick : List Str := ["_law_state", "_law_some"]
theorem sc_law_pick : FnScope n_law_pick ["_law_state", "_law_some"] (defScope s_law_pick) := ⟨rfl, rfl, rfl, by decide +kernel, rfl, by decide +kernel, by decide +kernel⟩
abbrev n_law_with_number : List Str := ["_law_word", "_law_worth", "_law_by_name"]
theorem sc_law_with_number : FnScope n_law_with_number ["_law_word", "_law_worth", "_law_by_name"] (defScope s_law_with_number) := ⟨rfl, rfl, rfl, by decide +kernel, rfl, by decide +kernel, by decide +kernel⟩
abbrev n_law_with_thing : List Str := ["_law_word", "_law_worth", "_law_by_name"]
theorem sc_law_with_thing : FnScope n_law_with_thing ["_law_word", "_law_worth", "_law_by_name"] (defScope s_law_with_thing) := ⟨rfl, rfl, rfl, by decide +kernel, rfl, by decide +kernel, by decide +kernel⟩
abbrev n_law_with_message : List Str := ["_law_word"]
theorem sc_law_with_message : FnScope n_law_with_message ["_law_word"] (defScope s_law_with_message) := ⟨rfl, rfl, rfl, by decide +kernel, rfl, by decide +kernel, by decide +kernel⟩
abbrev n_law_raised : List Str := ["_law_at", "_law_worth", "_law_by_name", "_law_words", "_law_caught", "e"]
theorem sc_law_raised : FnScope n_law_raised ["_law_at", "_law_worth", "_law_by_name"] (defScope s_law_raised) := ⟨rfl, rfl, rfl, by decide +kernel, rfl, by decide +kernel, by decide +kernel⟩
abbrev n_law_marks : List Str := ["_law_error", "_law_found"]
theorem sc_law_marks : FnScope n_law_marks ["_law_error"] (defScope s_law_marks) := ⟨rfl, rfl, rfl, by decide +kernel, rfl, by decide +kernel, by decide +kernel⟩
abbrev n_law_kept : List Str := ["_law_error", "_law_at"]
theorem sc_law_kept : FnScope n_law_kept ["_law_error", "_law_at"] (defScope s_law_kept) := ⟨rfl, rfl, rfl, by decide +kernel, rfl, by decide +kernel, by decide +kernel⟩
abbrev n_law : List Str := ["_law_script", "_law_state", "_law_turn", "_law_some", "_law_worth", "_law_by_name", "_law_at", "_law_error", "_law_due", "_law_spot"]
theorem sc_law : FnScope n_law ["_law_script"] (defScope s_law) := ⟨rfl, rfl, rfl, by decide +kernel, rfl, by decide +kernel, by decide +kernel⟩
def mainFile : Str := PySem.Challenge.pw_sparenames_k01_errors_apart.main.file
/-- what an error's super() asks of the program -/
def PrOk (P : Program) : Prop := P.main.file = mainFile ∧ (P.main.scope.names.lookup ("super" : Str)).isSome = false
theorem tx_BadPath : Txt1 s_BadPath_init "k" := ⟨⟨rfl, rfl, rfl, by decide +kernel, ⟨_, rfl, rfl⟩, rfl, rfl, rfl⟩, rfl, by decide +kernel, by decide +kernel, ⟨_, _, _, _, _, _, _, _, _, _, _, _, rfl, fun _ => rfl⟩⟩
theorem tx_BadText : Txt1 s_BadText_init "line" := ⟨⟨rfl, rfl, rfl, by decide +kernel, ⟨_, rfl, rfl⟩, rfl, rfl, rfl⟩, rfl, by decide +kernel, by decide +kernel, ⟨_, _, _, _, _, _, _, _, _, _, _, _, rfl, fun _ => rfl⟩⟩
theorem tx_BadKind : Txt1 s_BadKind_init "k" := ⟨⟨rfl, rfl, rfl, by decide +kernel, ⟨_, rfl, rfl⟩, rfl, rfl, rfl⟩, rfl, by decide +kernel, by decide +kernel, ⟨_, _, _, _, _, _, _, _, _, _, _, _, rfl, fun _ => rfl⟩⟩
theorem tx_BadAnswer : Txt1 s_BadAnswer_init "k" := ⟨⟨rfl, rfl, rfl, by decide +kernel, ⟨_, rfl, rfl⟩, rfl, rfl, rfl⟩, rfl, by decide +kernel, by decide +kernel, ⟨_, _, _, _, _, _, _, _, _, _, _, _, rfl, fun _ => rfl⟩⟩
theorem tx_BadFaded : Txt1 s_BadFaded_init "k" := ⟨⟨rfl, rfl, rfl, by decide +kernel, ⟨_, rfl, rfl⟩, rfl, rfl, rfl⟩, rfl, by decide +kernel, by decide +kernel, ⟨_, _, _, _, _, _, _, _, _, _, _, _, rfl, fun _ => rfl⟩⟩
theorem tx_BadEdit : Txt1 s_BadEdit_init "k" := ⟨⟨rfl, rfl, rfl, by decide +kernel, ⟨_, rfl, rfl⟩, rfl, rfl, rfl⟩, rfl, by decide +kernel, by decide +kernel, ⟨_, _, _, _, _, _, _, _, _, _, _, _, rfl, fun _ => rfl⟩⟩
theorem tx_NoModule : Txt1 s_NoModule_init "name" := ⟨⟨rfl, rfl, rfl, by decide +kernel, ⟨_, rfl, rfl⟩, rfl, rfl, rfl⟩, rfl, by decide +kernel, by decide +kernel, ⟨_, _, _, _, _, _, _, _, _, _, _, _, rfl, fun _ => rfl⟩⟩
theorem tx_NoDefinition : Txt1 s_NoDefinition_init "path" := ⟨⟨rfl, rfl, rfl, by decide +kernel, ⟨_, rfl, rfl⟩, rfl, rfl, rfl⟩, rfl, by decide +kernel, by decide +kernel, ⟨_, _, _, _, _, _, _, _, _, _, _, _, rfl, fun _ => rfl⟩⟩
theorem tx_Used : Txt1 s_Used_init "path" := ⟨⟨rfl, rfl, rfl, by decide +kernel, ⟨_, rfl, rfl⟩, rfl, rfl, rfl⟩, rfl, by decide +kernel, by decide +kernel, ⟨_, _, _, _, _, _, _, _, _, _, _, _, rfl, fun _ => rfl⟩⟩
theorem tx_BadModule : Txt2 s_BadModule_init "name" "line" := ⟨⟨rfl, rfl, rfl, by decide +kernel, ⟨_, rfl, rfl⟩, rfl, rfl, rfl⟩, rfl, rfl, by decide +kernel, by decide +kernel, by decide +kernel, by decide +kernel, by decide +kernel, ⟨_, _, _, _, _, _, _, _, _, _, _, _, _, _, _, _, rfl, fun _ => rfl⟩⟩
/-- what the top has left: the defs, the constants, the names that are still built in -/
structure Txt (K : PySem.W.Frag) (mg : Str → Option Value) where
  f_law_begun : Addr
  fd_law_begun : FuncData
  F_law_begun : Fun K "_law_begun" "_law_begun" s_law_begun f_law_begun fd_law_begun
  g_law_begun : mg "_law_begun" = some (.ref f_law_begun)
  b_law_begun : Binds K fd_law_begun ["_law_script"] []
  f_law_mixed : Addr
  fd_law_mixed : FuncData
  F_law_mixed : Fun K "_law_mixed" "_law_mixed" s_law_mixed f_law_mixed fd_law_mixed
  g_law_mixed : mg "_law_mixed" = some (.ref f_law_mixed)
  b_law_mixed : Binds K fd_law_mixed ["_law_state"] []
  f_law_take : Addr
  fd_law_take : FuncData
  F_law_take : Fun K "_law_take" "_law_take" s_law_take f_law_take fd_law_take
  g_law_take : mg "_law_take" = some (.ref f_law_take)
  b_law_take : Binds K fd_law_take ["_law_state", "_law_size"] []
  f_law_pick : Addr
  fd_law_pick : FuncData
  F_law_pick : Fun K "_law_pick" "_law_pick" s_law_pick f_law_pick fd_law_pick
  g_law_pick : mg "_law_pick" = some (.ref f_law_pick)
  b_law_pick : Binds K fd_law_pick ["_law_state", "_law_some"] []
  f_law_with_number : Addr
  fd_law_with_number : FuncData
  F_law_with_number : Fun K "_law_with_number" "_law_with_number" s_law_with_number f_law_with_number fd_law_with_number
  g_law_with_number : mg "_law_with_number" = some (.ref f_law_with_number)
  b_law_with_number : Binds K fd_law_with_number ["_law_word", "_law_worth", "_law_by_name"] []
  f_law_with_thing : Addr
  fd_law_with_thing : FuncData
  F_law_with_thing : Fun K "_law_with_thing" "_law_with_thing" s_law_with_thing f_law_with_thing fd_law_with_thing
  g_law_with_thing : mg "_law_with_thing" = some (.ref f_law_with_thing)
  b_law_with_thing : Binds K fd_law_with_thing ["_law_word", "_law_worth", "_law_by_name"] []
  f_law_with_message : Addr
  fd_law_with_message : FuncData
  F_law_with_message : Fun K "_law_with_message" "_law_with_message" s_law_with_message f_law_with_message fd_law_with_message
  g_law_with_message : mg "_law_with_message" = some (.ref f_law_with_message)
  b_law_with_message : Binds K fd_law_with_message ["_law_word"] []
  f_law_raised : Addr
  fd_law_raised : FuncData
  F_law_raised : Fun K "_law_raised" "_law_raised" s_law_raised f_law_raised fd_law_raised
  g_law_raised : mg "_law_raised" = some (.ref f_law_raised)
  b_law_raised : Binds K fd_law_raised ["_law_at", "_law_worth", "_law_by_name"] []
  f_law_marks : Addr
  fd_law_marks : FuncData
  F_law_marks : Fun K "_law_marks" "_law_marks" s_law_marks f_law_marks fd_law_marks
  g_law_marks : mg "_law_marks" = some (.ref f_law_marks)
  b_law_marks : Binds K fd_law_marks ["_law_error"] []
  f_law_kept : Addr
  fd_law_kept : FuncData
  F_law_kept : Fun K "_law_kept" "_law_kept" s_law_kept f_law_kept fd_law_kept
  g_law_kept : mg "_law_kept" = some (.ref f_law_kept)
  b_law_kept : Binds K fd_law_kept ["_law_error", "_law_at"] []
  f_law : Addr
  fd_law : FuncData
  F_law : Fun K "law" "law" s_law f_law fd_law
  g_law : mg "law" = some (.ref f_law)
  b_law : Binds K fd_law ["_law_script"] []
  z_super : mg "super" = none
  z_list : mg "list" = none
  z_int : mg "int" = none
  z_len : mg "len" = none
  z_isinstance : mg "isinstance" = none
  z_range : mg "range" = none
  z_min : mg "min" = none
  z_repr : mg "repr" = none
  z_ValueError : mg "ValueError" = none
  C_SpareError : Addr
  gC_SpareError : mg "SpareError" = some (.ref C_SpareError)
  x_SpareError : ExcC K C_SpareError
  xf_SpareError : XfC K C_SpareError
  kC_SpareError : PySem.W.keepIn K (.ref C_SpareError) = true
  ty_SpareError : PySem.W.typeIn K (.ref C_SpareError) = some (.type "type")
  m_SpareError : PySem.W.exmOne K (.ref C_SpareError) (.ref C_SpareError) = some true
  C_BadPath : Addr
  gC_BadPath : mg "BadPath" = some (.ref C_BadPath)
  x_BadPath : ExcC K C_BadPath
  xf_BadPath : XfC K C_BadPath
  kC_BadPath : PySem.W.keepIn K (.ref C_BadPath) = true
  ty_BadPath : PySem.W.typeIn K (.ref C_BadPath) = some (.type "type")
  m_BadPath : PySem.W.exmOne K (.ref C_BadPath) (.ref C_SpareError) = some true
  mr_BadPath : ∃ cd : ClassData, PySem.W.clsIn K C_BadPath = some cd ∧ cd.mro = [.ref C_BadPath, .ref C_SpareError, .type "ValueError", .type "Exception", .type "BaseException", .type "object"]
  fI_BadPath : Addr
  e_BadPath : ∀ P : Program, PrOk P → Err1 P K mg "BadPath" C_BadPath fI_BadPath s_BadPath_init "BadPath.__init__" "k"
  no_BadPath_k : PySem.W.findIn K (.ref C_BadPath) "k" = some none
  C_BadText : Addr
  gC_BadText : mg "BadText" = some (.ref C_BadText)
  x_BadText : ExcC K C_BadText
  xf_BadText : XfC K C_BadText
  kC_BadText : PySem.W.keepIn K (.ref C_BadText) = true
  ty_BadText : PySem.W.typeIn K (.ref C_BadText) = some (.type "type")
  m_BadText : PySem.W.exmOne K (.ref C_BadText) (.ref C_SpareError) = some true
  mr_BadText : ∃ cd : ClassData, PySem.W.clsIn K C_BadText = some cd ∧ cd.mro = [.ref C_BadText, .ref C_SpareError, .type "ValueError", .type "Exception", .type "BaseException", .type "object"]
  fI_BadText : Addr
  e_BadText : ∀ P : Program, PrOk P → Err1 P K mg "BadText" C_BadText fI_BadText s_BadText_init "BadText.__init__" "line"
  no_BadText_line : PySem.W.findIn K (.ref C_BadText) "line" = some none
  C_BadKind : Addr
  gC_BadKind : mg "BadKind" = some (.ref C_BadKind)
  x_BadKind : ExcC K C_BadKind
  xf_BadKind : XfC K C_BadKind
  kC_BadKind : PySem.W.keepIn K (.ref C_BadKind) = true
  ty_BadKind : PySem.W.typeIn K (.ref C_BadKind) = some (.type "type")
  m_BadKind : PySem.W.exmOne K (.ref C_BadKind) (.ref C_SpareError) = some true
  mr_BadKind : ∃ cd : ClassData, PySem.W.clsIn K C_BadKind = some cd ∧ cd.mro = [.ref C_BadKind, .ref C_SpareError, .type "ValueError", .type "Exception", .type "BaseException", .type "object"]
  fI_BadKind : Addr
  e_BadKind : ∀ P : Program, PrOk P → Err1 P K mg "BadKind" C_BadKind fI_BadKind s_BadKind_init "BadKind.__init__" "k"
  no_BadKind_k : PySem.W.findIn K (.ref C_BadKind) "k" = some none
  C_BadAnswer : Addr
  gC_BadAnswer : mg "BadAnswer" = some (.ref C_BadAnswer)
  x_BadAnswer : ExcC K C_BadAnswer
  xf_BadAnswer : XfC K C_BadAnswer
  kC_BadAnswer : PySem.W.keepIn K (.ref C_BadAnswer) = true
  ty_BadAnswer : PySem.W.typeIn K (.ref C_BadAnswer) = some (.type "type")
  m_BadAnswer : PySem.W.exmOne K (.ref C_BadAnswer) (.ref C_SpareError) = some true
  mr_BadAnswer : ∃ cd : ClassData, PySem.W.clsIn K C_BadAnswer = some cd ∧ cd.mro = [.ref C_BadAnswer, .ref C_SpareError, .type "ValueError", .type "Exception", .type "BaseException", .type "object"]
  fI_BadAnswer : Addr
  e_BadAnswer : ∀ P : Program, PrOk P → Err1 P K mg "BadAnswer" C_BadAnswer fI_BadAnswer s_BadAnswer_init "BadAnswer.__init__" "k"
  no_BadAnswer_k : PySem.W.findIn K (.ref C_BadAnswer) "k" = some none
  C_BadFaded : Addr
  gC_BadFaded : mg "BadFaded" = some (.ref C_BadFaded)
  x_BadFaded : ExcC K C_BadFaded
  xf_BadFaded : XfC K C_BadFaded
  kC_BadFaded : PySem.W.keepIn K (.ref C_BadFaded) = true
  ty_BadFaded : PySem.W.typeIn K (.ref C_BadFaded) = some (.type "type")
  m_BadFaded : PySem.W.exmOne K (.ref C_BadFaded) (.ref C_SpareError) = some true
  mr_BadFaded : ∃ cd : ClassData, PySem.W.clsIn K C_BadFaded = some cd ∧ cd.mro = [.ref C_BadFaded, .ref C_SpareError, .type "ValueError", .type "Exception", .type "BaseException", .type "object"]
  fI_BadFaded : Addr
  e_BadFaded : ∀ P : Program, PrOk P → Err1 P K mg "BadFaded" C_BadFaded fI_BadFaded s_BadFaded_init "BadFaded.__init__" "k"
  no_BadFaded_k : PySem.W.findIn K (.ref C_BadFaded) "k" = some none
  C_BadEdit : Addr
  gC_BadEdit : mg "BadEdit" = some (.ref C_BadEdit)
  x_BadEdit : ExcC K C_BadEdit
  xf_BadEdit : XfC K C_BadEdit
  kC_BadEdit : PySem.W.keepIn K (.ref C_BadEdit) = true
  ty_BadEdit : PySem.W.typeIn K (.ref C_BadEdit) = some (.type "type")
  m_BadEdit : PySem.W.exmOne K (.ref C_BadEdit) (.ref C_SpareError) = some true
  mr_BadEdit : ∃ cd : ClassData, PySem.W.clsIn K C_BadEdit = some cd ∧ cd.mro = [.ref C_BadEdit, .ref C_SpareError, .type "ValueError", .type "Exception", .type "BaseException", .type "object"]
  fI_BadEdit : Addr
  e_BadEdit : ∀ P : Program, PrOk P → Err1 P K mg "BadEdit" C_BadEdit fI_BadEdit s_BadEdit_init "BadEdit.__init__" "k"
  no_BadEdit_k : PySem.W.findIn K (.ref C_BadEdit) "k" = some none
  C_NoModule : Addr
  gC_NoModule : mg "NoModule" = some (.ref C_NoModule)
  x_NoModule : ExcC K C_NoModule
  xf_NoModule : XfC K C_NoModule
  kC_NoModule : PySem.W.keepIn K (.ref C_NoModule) = true
  ty_NoModule : PySem.W.typeIn K (.ref C_NoModule) = some (.type "type")
  m_NoModule : PySem.W.exmOne K (.ref C_NoModule) (.ref C_SpareError) = some true
  mr_NoModule : ∃ cd : ClassData, PySem.W.clsIn K C_NoModule = some cd ∧ cd.mro = [.ref C_NoModule, .ref C_SpareError, .type "ValueError", .type "Exception", .type "BaseException", .type "object"]
  fI_NoModule : Addr
  e_NoModule : ∀ P : Program, PrOk P → Err1 P K mg "NoModule" C_NoModule fI_NoModule s_NoModule_init "NoModule.__init__" "name"
  no_NoModule_name : PySem.W.findIn K (.ref C_NoModule) "name" = some none
  C_NoDefinition : Addr
  gC_NoDefinition : mg "NoDefinition" = some (.ref C_NoDefinition)
  x_NoDefinition : ExcC K C_NoDefinition
  xf_NoDefinition : XfC K C_NoDefinition
  kC_NoDefinition : PySem.W.keepIn K (.ref C_NoDefinition) = true
  ty_NoDefinition : PySem.W.typeIn K (.ref C_NoDefinition) = some (.type "type")
  m_NoDefinition : PySem.W.exmOne K (.ref C_NoDefinition) (.ref C_SpareError) = some true
  mr_NoDefinition : ∃ cd : ClassData, PySem.W.clsIn K C_NoDefinition = some cd ∧ cd.mro = [.ref C_NoDefinition, .ref C_SpareError, .type "ValueError", .type "Exception", .type "BaseException", .type "object"]
  fI_NoDefinition : Addr
  e_NoDefinition : ∀ P : Program, PrOk P → Err1 P K mg "NoDefinition" C_NoDefinition fI_NoDefinition s_NoDefinition_init "NoDefinition.__init__" "path"
  no_NoDefinition_path : PySem.W.findIn K (.ref C_NoDefinition) "path" = some none
  C_Used : Addr
  gC_Used : mg "Used" = some (.ref C_Used)
  x_Used : ExcC K C_Used
  xf_Used : XfC K C_Used
  kC_Used : PySem.W.keepIn K (.ref C_Used) = true
  ty_Used : PySem.W.typeIn K (.ref C_Used) = some (.type "type")
  m_Used : PySem.W.exmOne K (.ref C_Used) (.ref C_SpareError) = some true
  mr_Used : ∃ cd : ClassData, PySem.W.clsIn K C_Used = some cd ∧ cd.mro = [.ref C_Used, .ref C_SpareError, .type "ValueError", .type "Exception", .type "BaseException", .type "object"]
  fI_Used : Addr
  e_Used : ∀ P : Program, PrOk P → Err1 P K mg "Used" C_Used fI_Used s_Used_init "Used.__init__" "path"
  no_Used_path : PySem.W.findIn K (.ref C_Used) "path" = some none
  C_BadModule : Addr
  gC_BadModule : mg "BadModule" = some (.ref C_BadModule)
  x_BadModule : ExcC K C_BadModule
  xf_BadModule : XfC K C_BadModule
  kC_BadModule : PySem.W.keepIn K (.ref C_BadModule) = true
  ty_BadModule : PySem.W.typeIn K (.ref C_BadModule) = some (.type "type")
  m_BadModule : PySem.W.exmOne K (.ref C_BadModule) (.ref C_SpareError) = some true
  mr_BadModule : ∃ cd : ClassData, PySem.W.clsIn K C_BadModule = some cd ∧ cd.mro = [.ref C_BadModule, .ref C_SpareError, .type "ValueError", .type "Exception", .type "BaseException", .type "object"]
  fI_BadModule : Addr
  e_BadModule : ∀ P : Program, PrOk P → Err2 P K mg "BadModule" C_BadModule fI_BadModule s_BadModule_init "BadModule.__init__" "name" "line"
  no_BadModule_name : PySem.W.findIn K (.ref C_BadModule) "name" = some none
  no_BadModule_line : PySem.W.findIn K (.ref C_BadModule) "line" = some none
  C_BadTree : Addr
  gC_BadTree : mg "BadTree" = some (.ref C_BadTree)
  x_BadTree : ExcC K C_BadTree
  xf_BadTree : XfC K C_BadTree
  kC_BadTree : PySem.W.keepIn K (.ref C_BadTree) = true
  ty_BadTree : PySem.W.typeIn K (.ref C_BadTree) = some (.type "type")
  m_BadTree : PySem.W.exmOne K (.ref C_BadTree) (.ref C_SpareError) = some true
  mr_BadTree : ∃ cd : ClassData, PySem.W.clsIn K C_BadTree = some cd ∧ cd.mro = [.ref C_BadTree, .ref C_SpareError, .type "ValueError", .type "Exception", .type "BaseException", .type "object"]
  xi_BadTree : PySem.W.excIn K C_BadTree [.type "ValueError", .type "Exception", .type "BaseException", .type "object"] "ValueError.__new__" = true
  C_BadStart : Addr
  gC_BadStart : mg "BadStart" = some (.ref C_BadStart)
  x_BadStart : ExcC K C_BadStart
  xf_BadStart : XfC K C_BadStart
  kC_BadStart : PySem.W.keepIn K (.ref C_BadStart) = true
  ty_BadStart : PySem.W.typeIn K (.ref C_BadStart) = some (.type "type")
  m_BadStart : PySem.W.exmOne K (.ref C_BadStart) (.ref C_SpareError) = some true
  mr_BadStart : ∃ cd : ClassData, PySem.W.clsIn K C_BadStart = some cd ∧ cd.mro = [.ref C_BadStart, .ref C_SpareError, .type "ValueError", .type "Exception", .type "BaseException", .type "object"]
  xi_BadStart : PySem.W.excIn K C_BadStart [.type "ValueError", .type "Exception", .type "BaseException", .type "object"] "ValueError.__new__" = true
  C_BadArguments : Addr
  gC_BadArguments : mg "BadArguments" = some (.ref C_BadArguments)
  x_BadArguments : ExcC K C_BadArguments
  xf_BadArguments : XfC K C_BadArguments
  kC_BadArguments : PySem.W.keepIn K (.ref C_BadArguments) = true
  ty_BadArguments : PySem.W.typeIn K (.ref C_BadArguments) = some (.type "type")
  m_BadArguments : PySem.W.exmOne K (.ref C_BadArguments) (.ref C_SpareError) = some true
  mr_BadArguments : ∃ cd : ClassData, PySem.W.clsIn K C_BadArguments = some cd ∧ cd.mro = [.ref C_BadArguments, .ref C_SpareError, .type "ValueError", .type "Exception", .type "BaseException", .type "object"]
  xi_BadArguments : PySem.W.excIn K C_BadArguments [.type "ValueError", .type "Exception", .type "BaseException", .type "object"] "ValueError.__new__" = true
  C_BadLimit : Addr
  gC_BadLimit : mg "BadLimit" = some (.ref C_BadLimit)
  x_BadLimit : ExcC K C_BadLimit
  xf_BadLimit : XfC K C_BadLimit
  kC_BadLimit : PySem.W.keepIn K (.ref C_BadLimit) = true
  ty_BadLimit : PySem.W.typeIn K (.ref C_BadLimit) = some (.type "type")
  m_BadLimit : PySem.W.exmOne K (.ref C_BadLimit) (.ref C_SpareError) = some true
  mr_BadLimit : ∃ cd : ClassData, PySem.W.clsIn K C_BadLimit = some cd ∧ cd.mro = [.ref C_BadLimit, .ref C_SpareError, .type "ValueError", .type "Exception", .type "BaseException", .type "object"]
  xi_BadLimit : PySem.W.excIn K C_BadLimit [.type "ValueError", .type "Exception", .type "BaseException", .type "object"] "ValueError.__new__" = true
  C_BadCase : Addr
  gC_BadCase : mg "BadCase" = some (.ref C_BadCase)
  x_BadCase : ExcC K C_BadCase
  xf_BadCase : XfC K C_BadCase
  kC_BadCase : PySem.W.keepIn K (.ref C_BadCase) = true
  ty_BadCase : PySem.W.typeIn K (.ref C_BadCase) = some (.type "type")
  m_BadCase : PySem.W.exmOne K (.ref C_BadCase) (.ref C_SpareError) = some true
  mr_BadCase : ∃ cd : ClassData, PySem.W.clsIn K C_BadCase = some cd ∧ cd.mro = [.ref C_BadCase, .ref C_SpareError, .type "ValueError", .type "Exception", .type "BaseException", .type "object"]
  xi_BadCase : PySem.W.excIn K C_BadCase [.type "ValueError", .type "Exception", .type "BaseException", .type "object"] "ValueError.__new__" = true
  C_BadLedger : Addr
  gC_BadLedger : mg "BadLedger" = some (.ref C_BadLedger)
  x_BadLedger : ExcC K C_BadLedger
  xf_BadLedger : XfC K C_BadLedger
  kC_BadLedger : PySem.W.keepIn K (.ref C_BadLedger) = true
  ty_BadLedger : PySem.W.typeIn K (.ref C_BadLedger) = some (.type "type")
  m_BadLedger : PySem.W.exmOne K (.ref C_BadLedger) (.ref C_SpareError) = some true
  mr_BadLedger : ∃ cd : ClassData, PySem.W.clsIn K C_BadLedger = some cd ∧ cd.mro = [.ref C_BadLedger, .ref C_SpareError, .type "ValueError", .type "Exception", .type "BaseException", .type "object"]
  xi_BadLedger : PySem.W.excIn K C_BadLedger [.type "ValueError", .type "Exception", .type "BaseException", .type "object"] "ValueError.__new__" = true
  C_BadBeyond : Addr
  gC_BadBeyond : mg "BadBeyond" = some (.ref C_BadBeyond)
  x_BadBeyond : ExcC K C_BadBeyond
  xf_BadBeyond : XfC K C_BadBeyond
  kC_BadBeyond : PySem.W.keepIn K (.ref C_BadBeyond) = true
  ty_BadBeyond : PySem.W.typeIn K (.ref C_BadBeyond) = some (.type "type")
  m_BadBeyond : PySem.W.exmOne K (.ref C_BadBeyond) (.ref C_SpareError) = some true
  mr_BadBeyond : ∃ cd : ClassData, PySem.W.clsIn K C_BadBeyond = some cd ∧ cd.mro = [.ref C_BadBeyond, .ref C_SpareError, .type "ValueError", .type "Exception", .type "BaseException", .type "object"]
  xi_BadBeyond : PySem.W.excIn K C_BadBeyond [.type "ValueError", .type "Exception", .type "BaseException", .type "object"] "ValueError.__new__" = true
  C_BadRoute : Addr
  gC_BadRoute : mg "BadRoute" = some (.ref C_BadRoute)
  x_BadRoute : ExcC K C_BadRoute
  xf_BadRoute : XfC K C_BadRoute
  kC_BadRoute : PySem.W.keepIn K (.ref C_BadRoute) = true
  ty_BadRoute : PySem.W.typeIn K (.ref C_BadRoute) = some (.type "type")
  m_BadRoute : PySem.W.exmOne K (.ref C_BadRoute) (.ref C_SpareError) = some true
  mr_BadRoute : ∃ cd : ClassData, PySem.W.clsIn K C_BadRoute = some cd ∧ cd.mro = [.ref C_BadRoute, .ref C_SpareError, .type "ValueError", .type "Exception", .type "BaseException", .type "object"]
  xi_BadRoute : PySem.W.excIn K C_BadRoute [.type "ValueError", .type "Exception", .type "BaseException", .type "object"] "ValueError.__new__" = true
  C_BadNames : Addr
  gC_BadNames : mg "BadNames" = some (.ref C_BadNames)
  x_BadNames : ExcC K C_BadNames
  xf_BadNames : XfC K C_BadNames
  kC_BadNames : PySem.W.keepIn K (.ref C_BadNames) = true
  ty_BadNames : PySem.W.typeIn K (.ref C_BadNames) = some (.type "type")
  m_BadNames : PySem.W.exmOne K (.ref C_BadNames) (.ref C_SpareError) = some true
  mr_BadNames : ∃ cd : ClassData, PySem.W.clsIn K C_BadNames = some cd ∧ cd.mro = [.ref C_BadNames, .ref C_SpareError, .type "ValueError", .type "Exception", .type "BaseException", .type "object"]
  xi_BadNames : PySem.W.excIn K C_BadNames [.type "ValueError", .type "Exception", .type "BaseException", .type "object"] "ValueError.__new__" = true
  dif : [C_SpareError, C_BadPath, C_BadText, C_BadKind, C_BadAnswer, C_BadFaded, C_BadEdit, C_NoModule, C_NoDefinition, C_Used, C_BadModule, C_BadTree, C_BadStart, C_BadArguments, C_BadLimit, C_BadCase, C_BadLedger, C_BadBeyond, C_BadRoute, C_BadNames].Nodup
end Sn

/-! ## The drawing state of the laws: _law_begun, _law_mixed, _law_take, _law_pick. What is drawn is not told, only its bounds -/
namespace Sn
open PySem PySem.Spec PyProof.Rows L2

/-- the state's dict -/
def drK (g c : Addr) (l t : Int) : List (Key × V) :=
  [(Sum.inr "great", .ref g), (Sum.inr "cells", .ref c), (Sum.inr "left", .int l), (Sum.inr "turn", .int t)]
/-- the drawing state stands at d, its two lists at g and c; at most m numbers were mixed so far -/
structure Dr (H : Hp) (d g c : Addr) (m : Nat) : Prop where
  di : ∃ l t : Int, 0 ≤ t ∧ t ≤ m ∧ H d = some (.dK (drK g c l t))
  gr : ∃ ns : List Int, H g = some (.lst (ns.map V.int))
  ce : ∃ ns : List Int, H c = some (.lst (ns.map V.int))
  gc : g ≠ c
theorem Dr.mono {H : Hp} {d g c : Addr} {m n : Nat} (D : Dr H d g c m) (h : m ≤ n) : Dr H d g c n := by
  obtain ⟨l, t, h0, h1, h2⟩ := D.di
  exact ⟨⟨l, t, h0, by omega, h2⟩, D.gr, D.ce, D.gc⟩
theorem Dr.dg {H : Hp} {d g c : Addr} {m : Nat} (D : Dr H d g c m) : d ≠ g := by
  obtain ⟨l, t, _, _, h2⟩ := D.di
  obtain ⟨ns, h3⟩ := D.gr
  exact ne_of h2 h3 (by intro z; cases z)
theorem Dr.dc {H : Hp} {d g c : Addr} {m : Nat} (D : Dr H d g c m) : d ≠ c := by
  obtain ⟨l, t, _, _, h2⟩ := D.di
  obtain ⟨ns, h3⟩ := D.ce
  exact ne_of h2 h3 (by intro z; cases z)
/-- all that was tracked stands, but the state's dict and its first list -/
def Mv (d g : Addr) (H H' : Hp) : Prop := ∀ b o, b ≠ d → b ≠ g → H b = some o → H' b = some o
theorem Mv.refl (d g : Addr) (H : Hp) : Mv d g H H := fun _ _ _ _ e => e
theorem Mv.trans {d g : Addr} {H H1 H2 : Hp} (a : Mv d g H H1) (b : Mv d g H1 H2) : Mv d g H H2 :=
  fun x o h1 h2 e => b x o h1 h2 (a x o h1 h2 e)
theorem Mv.same {d g : Addr} {H H1 : Hp} (a : Same H H1) : Mv d g H H1 := fun x o _ _ e => a x o e
theorem Mv.upd {d g : Addr} {H : Hp} {o : HO} : Mv d g H (upd H d o) := fun b x h1 _ e => by rw [upd_ne h1]; exact e
theorem same_new {H : Hp} {p : Addr} {o : HO} (h : H p = none) : Same H (upd H p o) := fun b x e => by
  rw [upd_ne (ne_of_none e h)]
  exact e
/-- the state stays where all that is tracked stays -/
theorem Dr.same {H H' : Hp} {d g c : Addr} {m : Nat} (D : Dr H d g c m) (s : Same H H') : Dr H' d g c m := by
  obtain ⟨⟨l, t, h0, h1, h2⟩, ⟨a, h3⟩, ⟨b, h4⟩, h5⟩ := D
  exact ⟨⟨l, t, h0, h1, s _ _ h2⟩, ⟨a, s _ _ h3⟩, ⟨b, s _ _ h4⟩, h5⟩
theorem get_great (g c : Addr) (l t : Int) : valV (drK g c l t) (Sum.inr "great" : Key) = some (.ref g) := by kernel_rfl
theorem get_cells (g c : Addr) (l t : Int) : valV (drK g c l t) (Sum.inr "cells" : Key) = some (.ref c) := by kernel_rfl
theorem get_left (g c : Addr) (l t : Int) : valV (drK g c l t) (Sum.inr "left" : Key) = some (.int l) := by kernel_rfl
theorem get_turn (g c : Addr) (l t : Int) : valV (drK g c l t) (Sum.inr "turn" : Key) = some (.int t) := by kernel_rfl
theorem put_left (g c : Addr) (l t x : Int) : putK (drK g c l t) (Sum.inr "left" : Key) (.int x) = drK g c x t := by kernel_rfl
theorem put_turn (g c : Addr) (l t x : Int) : putK (drK g c l t) (Sum.inr "turn" : Key) (.int x) = drK g c l x := by kernel_rfl
theorem dget_of {H : Hp} {d : Addr} {kvs : List (Key × V)} {x : Str} {v : V} (h : H d = some (.dK kvs)) (e : valV kvs (Sum.inr x : Key) = some v) :
    DGet H d (.str x) (some v) := .inl ⟨kvs, Sum.inr x, .inl h, rfl, e.symm⟩
theorem dput_of {H : Hp} {d : Addr} {kvs kvs' : List (Key × V)} {x : Str} {v : V} (h : H d = some (.dK kvs)) (hl : kvs.length ≤ 1000) (e : putK kvs (Sum.inr x : Key) v = kvs') :
    DPut H d (.str x) v (upd H d (.dK kvs')) := .inl ⟨kvs, Sum.inr x, h, rfl, small1000 hl, by rw [e]⟩

theorem dp_ints {K : PySem.W.Frag} {H : Hp} : ∀ ns : List Int, DpAll K H (ns.map V.int) (ns.map PyData.int)
  | [] => .nil
  | n :: r => .cons (.int n) (dp_ints r)
theorem ix0 (x : Int) (r : List Int) : seqIndex? 0 ((x :: r).map V.int).length = some 0 := by
  rw [List.map_cons, List.length_cons]
  simp [seqIndex?]
theorem small4 (g c : Addr) (l t : Int) : (drK g c l t).length ≤ 1000 := by show 4 ≤ 1000; decide
def primes : List Int := [2147483629, 2147483587, 2147483579, 2147483563, 2147483549, 2147483543]
theorem primes_lo : ∀ q ∈ primes, 2147483543 ≤ q := by decide
theorem primes_hi : ∀ q ∈ primes, q ≤ 2147483629 := by decide
section
variable {P : Program} {w : World} {K : PySem.W.Frag} {mg : Str → Option Value} {base : Heap}
/-- _law_mixed: some number; one more was mixed -/
def spMixed : Sp := fun vs H Q _ => ∃ (d g c : Addr) (m : Nat), vs = [.ref d] ∧ Dr H d g c m ∧ m ≤ 1000000000 ∧
  ∀ (r : Int) (H' : Hp), Dr H' d g c (m + 1) → H' g = H g → Mv d g H H' → Q (.int r) H'
theorem ok_mixed (T : Txt K mg) : FnOk P w K mg base CX0 1 T.f_law_mixed T.fd_law_mixed ["_law_state"] spMixed := by
  refine T.F_law_mixed.ok sc_law_mixed (fun vs H Q E h => ?_) (fun cdv A outer s H vs Q E hr h => ?_)
  · obtain ⟨d, g, c, m, rfl, _⟩ := h
    rfl
  · obtain ⟨d, g, c, m, rfl, D, hm, k⟩ := h
    have hu := hu_of hr
    refine ⟨_, pss_cons (ps_dput hu (pv 0) pe_str (pe_op op_add (pe_dget hu (pv 0) pe_str (fun _ _ => rfl)) pe_int) rfl)
      (pss_cons (ps_set (i := 1) sc_law_mixed.nd rfl (Or.inl rfl) pe_int)
      (pss_cons (ps_for PassesOwn.never rfl (pi_list (pe_lst (pa_cons pe_int (pa_cons pe_int (pa_cons pe_int (pa_cons pe_int (pa_cons pe_int (pa_cons pe_int pa_nil)))))))) (pg_name (i := 2) sc_law_mixed.nd rfl (Or.inl rfl))
        (pss_cons (ps_set (i := 3) sc_law_mixed.nd rfl (Or.inl rfl) (pe_op op_add (pe_op op_mul pe_int (pe_dget hu (pv 0) pe_str (fun _ _ => rfl))) (pe_op op_fdivN (pv 2) pe_int)))
        (pss_cons (ps_for PassesOwn.never rfl (pi_list (pe_dget hu (pv 0) pe_str (fun _ _ => rfl))) (pg_name (i := 4) sc_law_mixed.nd rfl (Or.inl rfl))
          (pss_one (ps_set (i := 3) sc_law_mixed.nd rfl (Or.inl rfl) (pe_op op_modN (pe_callTy call_int1 (by rfl) T.z_int (by decide +kernel) (pa_cons (pe_op op_add (pe_op op_mul (pv 3) pe_int) (pv 4)) pa_nil)) (pv 2)))))
        (pss_one (ps_set (i := 1) sc_law_mixed.nd rfl (Or.inl rfl) (pe_op op_add (pe_op op_mul (pv 1) pe_int) (pe_op op_modN (pe_callTy call_int1 (by rfl) T.z_int (by decide +kernel) (pa_cons (pe_op op_pow (pv 3) pe_int) pa_nil)) (pv 2))))))))
      (pss_one (ps_ret (pv 1))))), ?_⟩
    obtain ⟨⟨l, t, h0, h1, hd⟩, ⟨gs, hg⟩, ⟨cs, hc⟩, hgc⟩ := id D
    refine ⟨_, rfl, d, _, rfl, dget_of hd (get_turn g c l t), _, _, rfl, rfl, _, rfl, d, _, rfl, dput_of hd (small4 g c l t) (put_turn g c l t _), ?_⟩
    refine ⟨(by show 6 ≤ sizeLine; decide), fun p hp => ?_⟩
    have npd : p ≠ d := fun e => by rw [e, upd_same] at hp; cases hp
    have hp0 : H p = none := by rw [upd_ne npd] at hp; exact hp
    have ncd : c ≠ d := fun e => by rw [e, hd] at hc; cases hc
    have ngd : g ≠ d := fun e => by rw [e, hd] at hg; cases hg
    generalize eH2 : upd (upd H d (.dK (drK g c l (t + 1)))) p (.lst [.int 2147483629, .int 2147483587, .int 2147483579, .int 2147483563, .int 2147483549, .int 2147483543]) = H2
    have fd : H2 d = some (.dK (drK g c l (t + 1))) := by rw [← eH2, upd_ne npd.symm, upd_same]
    have fc : H2 c = some (.lst (cs.map V.int)) := by rw [← eH2, upd_ne (ne_of_none hc hp0), upd_ne ncd]; exact hc
    have fg : H2 g = some (.lst (gs.map V.int)) := by rw [← eH2, upd_ne (ne_of_none hg hp0), upd_ne ngd]; exact hg
    have fp : H2 p = some (.lst (primes.map V.int)) := by rw [← eH2, upd_same]; rfl
    refine ⟨p, rfl, ⟨_, .inl (.inl fp)⟩, for_list (K := K) (a := p) (xs := primes.map V.int)
      (fun i σ H3 => ∃ (v2 v3 v4 : Option V) (f : Int), H2 = H3 ∧ σ = [some (.ref d), some (.int f), v2, v3, v4]) ⟨none, none, none, 0, rfl, rfl⟩ (fun i σ H3 _ ⟨_, _, _, _, e, _⟩ => by rw [← e]; exact .inl (.inl fp)) ?_ ?_⟩
    · rintro i y σ H3 hi ⟨v2, v3, v4, f, rfl, rfl⟩
      obtain ⟨q, rfl, q1, q2⟩ : ∃ q : Int, y = .int q ∧ 2147483543 ≤ q ∧ q ≤ 2147483629 := by
        have hm : y ∈ primes.map V.int := List.mem_of_getElem? hi
        obtain ⟨q, hq, rfl⟩ := List.mem_map.mp hm
        exact ⟨q, rfl, primes_lo q hq, primes_hi q hq⟩
      -- blend = 69997 * turn + prime // 11
      refine ⟨_, rfl, d, _, rfl, dget_of fd (get_turn g c l (t + 1)), _, _, rfl, rfl, .inl ⟨by decide, by decide⟩, _, rfl, _, _, rfl, rfl, ⟨by decide, by decide⟩, _, _, rfl, rfl, ?_⟩
      have b0 : 0 ≤ 69997 * (t + 1) + Int.fdiv q 11 ∧ 69997 * (t + 1) + Int.fdiv q 11 < 9223372036854775808 := by
        rw [Int.fdiv_eq_ediv_of_nonneg _ (by decide)]
        omega
      -- for cell in state["cells"]
      refine ⟨_, rfl, d, _, rfl, dget_of fd (get_cells g c l (t + 1)), c, rfl, ⟨_, .inl (.inl fc)⟩, for_list (K := K) (a := c) (xs := cs.map V.int)
        (fun i σ H3 => ∃ (v4 : Option V) (b : Int), H2 = H3 ∧ (0 ≤ b ∧ b < 9223372036854775808) ∧ σ = [some (.ref d), some (.int f), some (.int q), some (.int b), v4]) ⟨v4, _, rfl, b0, rfl⟩
        (fun i σ H3 _ ⟨_, _, e, _, _⟩ => by rw [← e]; exact .inl (.inl fc)) ?_ ?_⟩
      · rintro j x σ H3 hj ⟨v4, b, rfl, hb, rfl⟩
        obtain ⟨z, hz, rfl⟩ := List.mem_map.mp (List.mem_of_getElem? hj)
        refine ⟨_, rfl, _, _, rfl, rfl, .inr ⟨by decide, by decide⟩, _, rfl, _, _, rfl, rfl, .inl ⟨_, rfl, _, rfl, _, _, rfl, rfl, (by omega), ?_⟩⟩
        refine ⟨_, _, rfl, ?_, rfl⟩
        rw [Int.fmod_eq_emod_of_nonneg _ (by omega)]
        have e1 := Int.emod_nonneg (b * 48271 + z) (b := q) (by omega)
        have e2 := Int.emod_lt_of_pos (b * 48271 + z) (b := q) (by omega)
        omega
      · rintro σ H3 ⟨v4, b, rfl, hb, rfl⟩
        refine ⟨_, rfl, _, _, rfl, rfl, .inr ⟨by decide, by decide⟩, _, rfl, _, _, rfl, rfl, ⟨by decide, by decide, by omega⟩, .inl ⟨_, rfl, _, rfl, _, _, rfl, rfl, (by omega), _, _, rfl, rfl, ?_⟩⟩
        exact ⟨_, _, _, _, rfl, rfl⟩
    · rintro σ H3 ⟨v2, v3, v4, f, rfl, rfl⟩
      refine ⟨_, rfl, k f _ ⟨⟨l, t + 1, by omega, by omega, fd⟩, ⟨gs, fg⟩, ⟨cs, fc⟩, hgc⟩ (fg.trans hg.symm) fun b o h1 h2 e => ?_⟩
      rw [← eH2, upd_ne (ne_of_none e hp0), upd_ne h1]
      exact e
/-- _law_take: some number from 0 to size - 1 -/
def spTake : Sp := fun vs H Q _ => ∃ (d g c : Addr) (m : Nat) (n : Int), vs = [.ref d, .int n] ∧ Dr H d g c m ∧ m ≤ 1000000000 ∧ 0 < n ∧ n < 1000000000 ∧
  ∀ (r : Int) (H' : Hp), 0 ≤ r → r < n → Dr H' d g c (m + 1) → Mv d g H H' → Q (.int r) H'
theorem ok_take (T : Txt K mg) : FnOk P w K mg base CX0 2 T.f_law_take T.fd_law_take ["_law_state", "_law_size"] spTake := by
  have GM : FnOk P w K mg base CX0 1 T.f_law_mixed T.fd_law_mixed ["_law_state"] spMixed := ok_mixed T
  refine T.F_law_take.ok sc_law_take (fun vs H Q E h => ?_) (fun cdv A outer s H vs Q E hr h => ?_)
  · obtain ⟨d, g, c, m, n, rfl, _⟩ := h
    rfl
  · obtain ⟨d, g, c, m, n, rfl, D, hm, n0, n1, k⟩ := h
    have hu := hu_of hr
    refine ⟨_, pss_cons (ps_if (pt_cmpR op_eq (pe_dget hu (pv 0) pe_str (fun _ _ => rfl)) pe_int (nomark _))
        (pss_one (ps_dput hu (pv 0) pe_str (pe_ifExp (pt_cmpR (op_neD hr.units) (pe_dget hu (pv 0) pe_str (fun _ _ => rfl)) (pe_lst pa_nil) (nomark _))
          (pe_bm PySem.F.plainAttrs_list PySem.F.slot_list_pop PySem.F.type_list_pop mt_popAt (pe_dget hu (pv 0) pe_str (fun _ _ => rfl)) (pa_cons pe_int pa_nil))
          (pe_call GM hr rfl T.g_law_mixed T.F_law_mixed.kp T.b_law_mixed .nil pass0 (pa_cons (pv 0) pa_nil))) rfl)) pss_nil)
      (pss_cons (ps_set (i := 2) sc_law_take.nd rfl (Or.inl rfl) (pe_op op_modN (pe_callTy call_int1 (by rfl) T.z_int (by decide +kernel) (pa_cons (pe_dget hu (pv 0) pe_str (fun _ _ => rfl)) pa_nil)) (pv 1)))
      (pss_cons (ps_dput hu (pv 0) pe_str (pe_op op_fdivN (pe_dget hu (pv 0) pe_str (fun _ _ => rfl)) (pv 1)) rfl)
      (pss_one (ps_ret (pv 2))))), ?_⟩
    obtain ⟨⟨l, t, h0, h1, hd⟩, ⟨gs, hg⟩, ⟨cs, hc⟩, hgc⟩ := id D
    have ngd : g ≠ d := fun e => by rw [e, hd] at hg; cases hg
    have ncd : c ≠ d := fun e => by rw [e, hd] at hc; cases hc
    refine ⟨_, rfl, d, _, rfl, dget_of hd (get_left g c l t), rfl, _, rfl, ?_⟩
    have tail : ∀ (x y : Int) (H1 : Hp), 0 ≤ y → y ≤ m + 1 → H1 d = some (.dK (drK g c x y)) → (∃ ns : List Int, H1 g = some (.lst (ns.map V.int))) → H1 c = some (.lst (cs.map V.int)) → Mv d g H H1 →
        (0 ≤ Int.fmod x n ∧ Int.fmod x n < n) ∧ Q (.int (Int.fmod x n)) (upd H1 d (.dK (drK g c (Int.fdiv x n) y))) := by
      intro x y H1 y0 y1 e1 e2 e3 mv
      have r0 : 0 ≤ Int.fmod x n ∧ Int.fmod x n < n := by
        rw [Int.fmod_eq_emod_of_nonneg _ (by omega)]
        exact ⟨Int.emod_nonneg _ (by omega), Int.emod_lt_of_pos _ n0⟩
      obtain ⟨ns, e2⟩ := e2
      refine ⟨r0, k _ _ r0.1 r0.2 ⟨⟨_, y, y0, by omega, upd_same⟩, ⟨ns, by rw [upd_ne ngd]; exact e2⟩, ⟨cs, by rw [upd_ne ncd]; exact e3⟩, hgc⟩ (mv.trans Mv.upd)⟩
    refine ite2 (fun _ => ?_) (fun _ => ?_)
    · refine ⟨_, rfl, d, _, rfl, dget_of hd (get_great g c l t), (by show 0 ≤ sizeLine; decide), fun p hp => ?_⟩
      have sp1 : Same H (upd H p (.lst [])) := same_new hp
      refine ⟨_, _, .lst (.inl (.inl (sp1 _ _ hg))) (dp_ints gs), .lst (.inl (.inl upd_same)) .nil, PySem.W.ke_shaped_ints gs, by decide, _, rfl, ?_⟩
      match gs, hg with
      | [], hg =>
        refine iteF ?_
        refine ⟨_, rfl, d, g, c, m, rfl, D.same sp1, hm, fun r H1 D1 eg mv => ?_⟩
        obtain ⟨⟨l1, t1, g0, g1, hd1⟩, ⟨gs1, hg1⟩, ⟨cs1, hc1⟩, _⟩ := id D1
        refine ⟨_, rfl, d, _, rfl, dput_of hd1 (small4 g c l1 t1) (put_left g c l1 t1 r), ?_⟩
        have hc2 : H1 c = some (.lst (cs.map V.int)) := mv c _ ncd hgc.symm (sp1 _ _ hc)
        obtain ⟨r0, z⟩ := tail r t1 (upd H1 d (.dK (drK g c r t1))) g0 (by omega) upd_same ⟨gs1, by rw [upd_ne ngd]; exact hg1⟩ (by rw [upd_ne ncd]; exact hc2) (((Mv.same sp1).trans mv).trans Mv.upd)
        refine ⟨_, rfl, d, _, rfl, dget_of upd_same (get_left g c r t1), .inl ⟨_, rfl, _, rfl, _, _, rfl, rfl, (by omega), ?_⟩⟩
        exact ⟨_, rfl, d, _, rfl, dget_of upd_same (get_left g c r t1), _, rfl, _, _, rfl, rfl, ⟨by omega, by omega⟩, _, rfl, d, _, rfl, dput_of upd_same (small4 g c r t1) (put_left g c r t1 _), _, rfl, z⟩
      | x :: gs, hg =>
        refine iteT ?_
        refine ⟨_, rfl, d, _, rfl, dget_of (sp1 _ _ hd) (get_great g c l t), .inl ⟨rfl, _, .inl (.inl (sp1 _ _ hg))⟩, g, _, 0, 0, _, rfl, rfl, sp1 _ _ hg, by decide, by decide, ix0 _ _, rfl, ?_⟩
        have hd1 : (upd (upd H p (.lst [])) g (.lst (((x :: gs).map V.int).eraseIdx 0))) d = some (.dK (drK g c l t)) := by rw [upd_ne ngd.symm]; exact sp1 _ _ hd
        refine ⟨_, rfl, d, _, rfl, dput_of hd1 (small4 g c l t) (put_left g c l t x), ?_⟩
        obtain ⟨r0, z⟩ := tail x t (upd (upd (upd H p (.lst [])) g (.lst (((x :: gs).map V.int).eraseIdx 0))) d (.dK (drK g c x t))) h0 (by omega) upd_same ⟨gs, by rw [upd_ne ngd, upd_same]; rfl⟩ (by rw [upd_ne ncd, upd_ne hgc.symm]; exact sp1 _ _ hc) (fun b o b1 b2 e => by rw [upd_ne b1, upd_ne b2]; exact sp1 _ _ e)
        refine ⟨_, rfl, d, _, rfl, dget_of upd_same (get_left g c x t), .inl ⟨_, rfl, _, rfl, _, _, rfl, rfl, (by omega), ?_⟩⟩
        exact ⟨_, rfl, d, _, rfl, dget_of upd_same (get_left g c x t), _, rfl, _, _, rfl, rfl, ⟨by omega, by omega⟩, _, rfl, d, _, rfl, dput_of upd_same (small4 g c x t) (put_left g c x t _), _, rfl, z⟩
    · obtain ⟨r0, z⟩ := tail l t H h0 (by omega) hd ⟨gs, hg⟩ hc (Mv.refl _ _ _)
      refine ⟨_, rfl, d, _, rfl, dget_of hd (get_left g c l t), .inl ⟨_, rfl, _, rfl, _, _, rfl, rfl, (by omega), ?_⟩⟩
      exact ⟨_, rfl, d, _, rfl, dget_of hd (get_left g c l t), _, rfl, _, _, rfl, rfl, ⟨by omega, by omega⟩, _, rfl, d, _, rfl, dput_of hd (small4 g c l t) (put_left g c l t _), _, rfl, z⟩
theorem at_int {α : Type} {xs : List α} {r : Int} (h0 : 0 ≤ r) (h1 : r < xs.length) : ∃ v, v ∈ xs ∧ atI xs r = some v := by
  obtain ⟨j, rfl⟩ := Int.eq_ofNat_of_zero_le h0
  have hj : j < xs.length := by omega
  exact ⟨xs[j], List.getElem_mem hj, atI_nat (List.getElem?_eq_getElem hj)⟩
/-- _law_pick: a sign of a text that is not empty, an item of a list that is not empty -/
def spPick : Sp := fun vs H Q _ => ∃ (d g c : Addr) (m : Nat), Dr H d g c m ∧ m ≤ 1000000000 ∧
  ((∃ z : Str, vs = [.ref d, .str z] ∧ 0 < z.length ∧ z.length ≤ 1000 ∧ ∀ (x : Nat) (H' : Hp), x ∈ z.cps.toList → Dr H' d g c (m + 1) → Mv d g H H' → Q (.str ⟨#[x]⟩) H') ∨
   (∃ (p : Addr) (xs : List V), vs = [.ref d, .ref p] ∧ H p = some (.lst xs) ∧ p ≠ g ∧ 0 < xs.length ∧ xs.length ≤ 1000 ∧ ∀ (x : V) (H' : Hp), x ∈ xs → Dr H' d g c (m + 1) → Mv d g H H' → Q x H'))
theorem ok_pick (T : Txt K mg) : FnOk P w K mg base CX0 3 T.f_law_pick T.fd_law_pick ["_law_state", "_law_some"] spPick := by
  have GT : FnOk P w K mg base CX0 2 T.f_law_take T.fd_law_take ["_law_state", "_law_size"] spTake := ok_take T
  refine T.F_law_pick.ok sc_law_pick (fun vs H Q E h => ?_) (fun cdv A outer s H vs Q E hr h => ?_)
  · obtain ⟨d, g, c, m, _, _, ⟨z, rfl, _⟩ | ⟨p, xs, rfl, _⟩⟩ := h
    · rfl
    · rfl
  · obtain ⟨d, g, c, m, D, hm, h⟩ := h
    refine ⟨_, pss_one (ps_ret (pe_ix ix_seq (pv 1) (pe_call GT hr rfl T.g_law_take T.F_law_take.kp T.b_law_take .nil pass0 (pa_cons (pv 0) (pa_cons (pe_callB call_len (by rfl) T.z_len PySem.boot_len (pa_cons (pv 1) pa_nil)) pa_nil))) (fun _ _ => rfl))), ?_⟩
    rcases h with ⟨z, rfl, z0, z1, k⟩ | ⟨p, xs, rfl, hp, npg, z0, z1, k⟩
    · have zs : z.length ≤ sizeLine := Nat.le_of_lt (small1000 z1)
      refine ⟨_, rfl, _, rfl, _, rfl, _, z.length, rfl, ⟨zs, rfl⟩, d, g, c, m, _, rfl, D, hm, by omega, by omega, fun r H' r0 r1 D' mv => ?_⟩
      obtain ⟨x, hx, ex⟩ := at_int (xs := z.cps.toList) r0 (by show r < (z.length : Int); omega)
      exact .inr (.inr ⟨z, r, x, rfl, rfl, zs, ex, k _ H' hx D' mv⟩)
    · refine ⟨_, rfl, _, rfl, _, rfl, _, xs.length, rfl, .inl ⟨xs, .inl (.inl hp), rfl⟩, d, g, c, m, _, rfl, D, hm, by omega, by omega, fun r H' r0 r1 D' mv => ?_⟩
      have npd : p ≠ d := by
        obtain ⟨l, t, _, _, hd⟩ := D.di
        exact ne_of hp hd (by intro z; cases z)
      obtain ⟨x, hx, ex⟩ := at_int (xs := xs) r0 r1
      exact .inl ⟨p, xs, r, x, rfl, rfl, .inl (.inl (mv p _ npd npg hp)), ex, k _ H' hx D' mv⟩
/-- _law_begun: a new state -/
def spBegun (K : PySem.W.Frag) : Sp := fun vs H Q _ => ∃ (a : Addr) (ns : List Int), vs = [.ref a] ∧ SqL K H a (ns.map V.int) ∧ ns.length ≤ 1000 ∧
  ∀ (d g c : Addr) (H' : Hp), H d = none → H g = none → H c = none → Dr H' d g c 0 → Same H H' → Q (.ref d) H'
theorem ok_begun (T : Txt K mg) : FnOk P w K mg base CX0 1 T.f_law_begun T.fd_law_begun ["_law_script"] (spBegun K) := by
  refine T.F_law_begun.ok sc_law_begun (fun vs H Q E h => ?_) (fun cdv A outer s H vs Q E hr h => ?_)
  · obtain ⟨a, ns, rfl, _⟩ := h
    rfl
  · obtain ⟨a, ns, rfl, hS, hl, k⟩ := h
    refine ⟨_, pss_cons (ps_setLc (i := 1) (own := [("_law_cell", 2)]) (g := gName 2) rfl sc_law_begun.nd rfl rfl (sw_true rfl rfl rfl (by decide +kernel)) (pi_list (pv 0))
        (blkOk_by (own := [("_law_cell", 2)]) (N := n_law_begun) (sc := defScope s_law_begun) (by decide +kernel))
        (fun _ _ _ _ _ => pg_name (i := 2) sc_law_begun.nd rfl (Or.inl rfl))
        (fun _ _ _ _ _ => pts_one (pt_cmpR op_ge (pv 2) (pe_op op_pow pe_int pe_int) (nomark _)))
        (fun _ _ _ _ _ => pe_op op_sub (pv 2) (pe_op op_pow pe_int pe_int)))
      (pss_one (ps_ret (pe_disp (pps_cons pe_str (pv 1) (pps_cons pe_str (pe_callTy call_list_of (by rfl) T.z_list (by decide +kernel) (pa_cons (pv 0) pa_nil)) (pps_cons pe_str pe_int (pps_cons pe_str pe_int pps_nil)))) (by rfl) (by rfl) (fun z => by cases z) (by decide)))), ?_⟩
    refine ⟨_, rfl, a, rfl, ⟨_, hS⟩, fun D hD => ?_⟩
    have sm : ∀ o, Same H (upd H D o) := fun o => same_new hD
    refine lc_list (K := K) (a := a) (xs := ns.map V.int) (fun i H1 => ∃ gs : List Int, H1 = upd H D (.lst (gs.map V.int)) ∧ gs.length ≤ i) ⟨[], rfl, Nat.le_refl _⟩
      (fun i H1 _ ⟨gs, e, _⟩ => by rw [e]; exact (sm _).seq hS) ?_ ?_
    · rintro i x H1 hx ⟨gs, rfl, hg⟩
      have hi : i < (ns.map V.int).length := (List.getElem?_eq_some_iff.mp hx).1
      rw [List.length_map] at hi
      obtain ⟨z, hz, rfl⟩ := List.mem_map.mp (List.mem_of_getElem? hx)
      refine ⟨rfl, _, rfl, _, _, rfl, rfl, ⟨by decide, by decide, by decide⟩, _, _, rfl, rfl, _, rfl, ?_⟩
      refine ite2 (fun _ => ?_) (fun _ => ?_)
      · refine ⟨_, rfl, _, _, rfl, rfl, ⟨by decide, by decide, by decide⟩, _, _, rfl, rfl, _, upd_same, ?_, ?_⟩
        · rw [List.length_map]
          exact small1000 (by omega)
        · refine ⟨gs ++ [z - 10 ^ 18], ?_, by rw [List.length_append]; show gs.length + 1 ≤ i + 1; omega⟩
          rw [upd_upd, List.map_append]
          rfl
      · exact ⟨gs, rfl, by omega⟩
    · rintro H1 ⟨gs, rfl, hg⟩
      intro d hd
      have nDd : D ≠ d := fun e => by rw [← e, upd_same] at hd; cases hd
      have hd0 : H d = none := by rw [upd_ne nDd.symm] at hd; exact hd
      have s1 : Same (upd H D (.lst (gs.map V.int))) (upd (upd H D (.lst (gs.map V.int))) d (.dK [])) := same_new hd
      refine ⟨_, rfl, _, rfl, a, _, rfl, .inl (s1.seq ((sm _).seq hS)), fun c hc => ?_⟩
      have s2 : Same (upd (upd H D (.lst (gs.map V.int))) d (.dK [])) (upd (upd (upd H D (.lst (gs.map V.int))) d (.dK [])) c (.lst (ns.map V.int))) := same_new hc
      have hgD := s2 _ _ (s1 _ _ (upd_same (H := H) (a := D) (o := .lst (gs.map V.int))))
      have hdd := s2 _ _ (upd_same (H := upd H D (.lst (gs.map V.int))) (a := d) (o := .dK []))
      have ndc : d ≠ c := fun e => by rw [← e, upd_same] at hc; cases hc
      have nDc : D ≠ c := fun e => by rw [← e] at hc; rw [s1 _ _ upd_same] at hc; cases hc
      have hc0 : H c = none := by rw [upd_ne ndc.symm, upd_ne nDc.symm] at hc; exact hc
      refine ⟨hdd, drK D c 0 0, rfl, by show 4 ≤ 15; decide, ?_⟩
      have em : mergeK [] (drK D c 0 0) = drK D c 0 0 := by kernel_rfl
      rw [em]
      refine k d D c _ hd0 hD hc0 ⟨⟨0, 0, by omega, by omega, upd_same⟩, ⟨gs, ?_⟩, ⟨ns, ?_⟩, nDc⟩ fun b o e => ?_
      · rw [upd_ne nDd]; exact hgD
      · rw [upd_ne ndc.symm, upd_same]
      · rw [upd_ne (ne_of_none e hd0)]; exact s2 _ _ (s1 _ _ (sm _ _ _ e))
end
end Sn

/-! ## The drawing state beside new objects (for laws without Drawn and DrawnN, which say the same) -/
namespace Sn
open PySem PySem.Spec PyProof.Rows L2
theorem dr_new {H : Hp} {d g c p : Addr} {m : Nat} (D : Dr H d g c m) (h : H p = none) : p ≠ d ∧ p ≠ g ∧ p ≠ c := by
  obtain ⟨⟨l, t, _, _, hd⟩, ⟨gs, hg⟩, ⟨cs, hc⟩, _⟩ := D
  exact ⟨(ne_of_none hd h).symm, (ne_of_none hg h).symm, (ne_of_none hc h).symm⟩
theorem Dr.upd {H : Hp} {d g c L : Addr} {m : Nat} {o : HO} (D : Dr H d g c m) (h : L ≠ d ∧ L ≠ g ∧ L ≠ c) : Dr (L2.upd H L o) d g c m := by
  obtain ⟨⟨l, t, h0, h1, h2⟩, ⟨a, h3⟩, ⟨b, h4⟩, h5⟩ := D
  exact ⟨⟨l, t, h0, h1, by rw [upd_ne h.1.symm]; exact h2⟩, ⟨a, by rw [upd_ne h.2.1.symm]; exact h3⟩, ⟨b, by rw [upd_ne h.2.2.symm]; exact h4⟩, h5⟩
theorem Mv.put {d g L : Addr} {H H2 : Hp} {o : HO} (m : Mv d g H H2) (h : H L = none) : Mv d g H (L2.upd H2 L o) := fun b x h1 h2 e => by
  rw [upd_ne (ne_of_none e h)]
  exact m _ _ h1 h2 e
end Sn

/-! ## repr of data with the dict {'a': 1} in it -/
namespace Sn
open PySem PySem.Spec PyProof.Rows L2
mutual
/-- data: none, bools, ints, texts, the dict {'a': 1}, lists and tuples of such -/
inductive Dq (H : Hp) : V → PyData → Prop
  | non : Dq H .non .none
  | bl (b : Bool) : Dq H (.bl b) (.bool b)
  | int (i : Int) : Dq H (.int i) (.int i)
  | str (x : Str) : Dq H (.str x) (.str x)
  | dk {a : Addr} : H a = some (.dK [(Sum.inr "a", .int 1)]) → Dq H (.ref a) (.dict [(.str "a", .int 1)])
  | lst {a : Addr} {xs : List V} {ds : List PyData} : H a = some (.lst xs) → a ≠ sysModules → DqAll H xs ds → Dq H (.ref a) (.list ds)
  | tup {a : Addr} {xs : List V} {ds : List PyData} : H a = some (.tup xs) → DqAll H xs ds → Dq H (.ref a) (.tuple ds)
inductive DqAll (H : Hp) : List V → List PyData → Prop
  | nil : DqAll H [] []
  | cons {v : V} {vs : List V} {d : PyData} {ds : List PyData} : Dq H v d → DqAll H vs ds → DqAll H (v :: vs) (d :: ds)
end
mutual
theorem Dq.same {H H' : Hp} (sm : Same H H') : ∀ {v : V} {d : PyData}, Dq H v d → Dq H' v d
  | _, _, .non => .non
  | _, _, .bl b => .bl b
  | _, _, .int i => .int i
  | _, _, .str x => .str x
  | _, _, .dk h => .dk (sm _ _ h)
  | _, _, .lst h n a => .lst (sm _ _ h) n (a.same sm)
  | _, _, .tup h a => .tup (sm _ _ h) (a.same sm)
theorem DqAll.same {H H' : Hp} (sm : Same H H') : ∀ {v : List V} {d : List PyData}, DqAll H v d → DqAll H' v d
  | _, _, .nil => .nil
  | _, _, .cons h a => .cons (h.same sm) (a.same sm)
end
section
variable {X : Cx} {pins : List (Addr × Obj)} {σ : L2.St} {H : Hp} {s : Shared}
theorem kv_one {k : Key} {v : V} {vs : List (Key × Value)} (h : KV [(k, v)] vs) : ∃ u, vs = [(k, u)] ∧ RelV v u := by
  cases h with
  | cons r1 r2 =>
    cases r2
    rename_i q
    obtain ⟨qk, qv⟩ := q
    obtain ⟨e1, e2⟩ := r1
    simp only at e1
    subst e1
    exact ⟨qv, rfl, e2⟩
theorem dk_reads {a : Addr} (I : Inv X pins σ H s) (h : H a = some (.dK [(Sum.inr "a", .int 1)])) : ∃ as, Reads s.heap (.ref a) (.dict [(.str "a", .int 1)]) as ∧ sysModules ∉ as := by
  obtain ⟨_, hs, vs, rel, o, es, ep, ho, hx, hd, hk, hp, _⟩ := dk_of I.hok h
  obtain ⟨u, rfl, t, rfl⟩ := kv_one rel
  obtain ⟨e, he, p1, p2⟩ : ∃ e : DictEntry, es.toList = [e] ∧ (mixKind X.prog X.w).is (Sum.inr "a") e.key = true ∧ e.val = .int 1 t := by
    generalize es.toList = el at hp
    cases hp with
    | cons p1 p2 p3 =>
      cases p3
      exact ⟨_, rfl, p1, p2⟩
  have p0 : keyIs (Sum.inr "a") e.key = true := p1
  rcases keyIs_shape p0 with ⟨i, t', e1, e2⟩ | ⟨x, t', e1, e2⟩
  · cases e1
  injection e1 with e1
  subst e1
  refine ⟨_, Reads.dict ho hx.1 hd (by rw [he, List.map_cons, List.map_nil, e2]; exact .cons (.str _ _) .nil) (by rw [he, List.map_cons, List.map_nil, p2]; exact .cons (.int _ _) .nil), ?_⟩
  simp only [List.append_nil, List.mem_cons, List.not_mem_nil, or_false]
  intro z
  rw [← z] at hs
  exact absurd hs (by decide)
mutual
theorem Dq.reads (I : Inv X pins σ H s) : ∀ {v : V} {d : PyData}, Dq H v d → ∀ u, RelV v u → ∃ as, Reads s.heap u d as ∧ sysModules ∉ as
  | _, _, .non, u, r => by
    cases r
    exact ⟨_, .none, by simp⟩
  | _, _, .bl b, u, r => by
    cases r
    exact ⟨_, .bool b, by simp⟩
  | _, _, .int i, u, r => by
    obtain ⟨t, rfl⟩ := r
    exact ⟨_, .int i t, by simp⟩
  | _, _, .str x, u, r => by
    obtain ⟨t, rfl⟩ := r
    exact ⟨_, .str x t, by simp⟩
  | _, _, .dk h, u, r => by
    cases r
    exact dk_reads I h
  | _, _, .lst h n a, u, r => by
    cases r
    obtain ⟨its, rv, ⟨o, m, ho, hc, _, hd⟩, _⟩ := I.list (.inl (.inl h))
    obtain ⟨as, hr, hn⟩ := a.reads I its rv
    exact ⟨_, Reads.list ho hc hd hr, fun z => (List.mem_cons.mp z).elim (fun e => n e.symm) hn⟩
  | _, _, .tup h a, u, r => by
    cases r
    obtain ⟨its, rv, ⟨o, ho, hc, m, hd⟩, _⟩ := I.tuple (.inl (.inl h))
    obtain ⟨as, hr, hn⟩ := a.reads I its rv
    exact ⟨_, Reads.tuple ho hc hd hr, hn⟩
theorem DqAll.reads (I : Inv X pins σ H s) : ∀ {vs : List V} {ds : List PyData}, DqAll H vs ds → ∀ us, Vals vs us → ∃ as, ReadsAll s.heap us ds as ∧ sysModules ∉ as
  | _, _, .nil, us, r => by
    cases r
    exact ⟨_, .nil, by simp⟩
  | _, _, .cons h a, us, r => by
    cases r with
    | cons r1 r2 =>
      obtain ⟨as, h1, n1⟩ := h.reads I _ r1
      obtain ⟨bs, h2, n2⟩ := a.reads I _ r2
      exact ⟨_, .cons h1 h2, fun z => (List.mem_append.mp z).elim n1 n2⟩
end
/-- repr of such data -/
theorem call_reprQ (hgu : X.A.guards = some []) (hu : X.A.units + 70 < cLine) : CallR X (.builtin "repr")
    (fun xs H Q => ∃ (v : V) (d : PyData), xs = [v] ∧ Dq H v d ∧ d.showable = true ∧ d.depth ≤ 64 ∧ d.shown.length ≤ sizeLine ∧ (∀ i, v = .int i → i.natAbs.log2 < 1920) ∧ Q (.str d.shown) H) := by
  intro pins s σ H xs us Q I r h
  obtain ⟨v, d, rfl, hD, hs, hd, hz, hi, q⟩ := h
  obtain ⟨u, rfl, rx⟩ := vals1 r
  have byRef : ∀ a, v = .ref a → wpAny (model X.prog X.w) X.A (call (.builtin "repr") [u]) (EP X pins σ Q) X.xe s := fun a e => by
    subst e
    obtain ⟨as, rr, hn⟩ := hD.reads I u rx
    cases rx
    refine repr_of_reads' rr hs (fun _ => hn) hgu (by omega) (fun _ _ z => z) ?_ hz
    intro h' u tk kp
    exact ⟨.str _, H, I.kept kp, ⟨_, rfl⟩, q⟩
  cases hD with
  | non =>
    cases rx
    exact PySem.P.repr_of_none ⟨.str _, H, I.tok _, ⟨_, rfl⟩, q⟩
  | bl b =>
    cases rx
    exact PySem.P.repr_of_bool ⟨.str _, H, I.tok _, ⟨_, rfl⟩, q⟩
  | int i =>
    obtain ⟨t, rfl⟩ := rx
    exact PySem.P.repr_of_int (hi _ rfl) ⟨.str _, H, I.tok _, ⟨_, rfl⟩, q⟩
  | str x =>
    obtain ⟨t, rfl⟩ := rx
    exact PySem.P.repr_of_str ⟨.str _, H, I.tok _, ⟨_, rfl⟩, q⟩ hz
  | dk h => exact byRef _ rfl
  | lst h n a => exact byRef _ rfl
  | tup h a => exact byRef _ rfl
/-- [e, ..]: not where sys.modules stands -/
def tLstB (t : TA) : TE := fun σ H Q => t σ H fun xs H1 => xs.length ≤ sizeLine ∧ ∀ p, H1 p = none → p ≠ sysModules → Q (.ref p) (upd H1 p (.lst xs))
theorem pe_lstB {es : List Expr} {t : TA} {pos : Pos} (h : PA X es t) : PE X (.List es pos) (tLstB t) := by
  refine ⟨fun pins s σ H Q I hq => ?_⟩
  refine wpAny_List_spliced (thn (h.run pos pins s σ H _ I hq) ?_)
  rintro us s1 ⟨xs, H1, I1, r, z, q⟩
  refine ⟨by rw [← r.length]; exact z, ?_⟩
  have big : s1.heap.objs.size ≠ sysModules := Nat.ne_of_gt I1.big
  refine ⟨.ref s1.heap.objs.size, _, I1.laid (o := .lst xs) (t' := s1.toks) (fun b u e => Heap.get?_push_of_some _ e) (Nat.le_refl _) ?_, rfl, q _ (I1.hok.fresh (Nat.le_refl _)) big⟩
  exact ⟨z, us, 0, r, Heap.get?_push_size _ rfl⟩
end
end Sn

/-! ## law_k01: the nineteen classes; what is raised -/
namespace Sn
open PySem PySem.Spec PyProof.Rows L2
def wds : List Str := ["path", "text", "kind", "answer", "faded", "edit", "module", "definition", "used", "pair", "tree", "start", "arguments", "limit", "case", "ledger", "beyond", "route", "names"]
def wd (n : Nat) : Str := wds.getD n ""
def fNs : List Str := ["k", "line", "k", "k", "k", "k", "name", "path", "path"]
def fN (n : Nat) : Str := fNs.getD n ""
theorem iteDF {b : Bool} {p q : Prop} (h : b = false) (x : q) : if b = true then p else q := by rw [h]; exact iteF x
theorem iteDT {b : Bool} {p q : Prop} (h : b = true) (x : p) : if b = true then p else q := by rw [h]; exact iteT x
section
variable {P : Program} {w : World} {K : PySem.W.Frag} {mg : Str → Option Value} {base : Heap}
def eL (T : Txt K mg) : List Addr := [T.C_BadPath, T.C_BadText, T.C_BadKind, T.C_BadAnswer, T.C_BadFaded, T.C_BadEdit, T.C_NoModule, T.C_NoDefinition, T.C_Used, T.C_BadModule, T.C_BadTree, T.C_BadStart, T.C_BadArguments, T.C_BadLimit, T.C_BadCase, T.C_BadLedger, T.C_BadBeyond, T.C_BadRoute, T.C_BadNames]
def eC (T : Txt K mg) (n : Nat) : Addr := (eL T).getD n 0
def spNum (T : Txt K mg) : Sp := fun vs H _ E => ∃ (n : Nat) (v : V) (b : Bool), n < 6 ∧ vs = [.str (wd n), v, .bl b] ∧ ∀ d, H d = none → E (.ref (eC T n)) (some d) (upd H d (.xd [(fN n, v)]))
theorem ok_num (T : Txt K mg) (hP : PrOk P) : FnOk P w K mg base (L2.CX P w) 3 T.f_law_with_number T.fd_law_with_number ["_law_word", "_law_worth", "_law_by_name"] (spNum T) := by
  refine T.F_law_with_number.okX sc_law_with_number (fun vs H Q E h => ?_) (fun cdv A outer s H vs Q E hr h => ?_)
  · obtain ⟨n, v, b, _, rfl, _⟩ := h
    rfl
  · obtain ⟨n, v, b, hn, rfl, k⟩ := h
    refine ⟨_, (pss_cons (ps_if (PW.pt (pw_and (pt_cmpR op_eq (pv 0) pe_str (nomark _)) (pw_and1 (pt_val (pv 2)))))
        (pss_one (ps_raise rfl (takes_of rfl rfl rfl rfl) (pmk_errK1 (T.e_BadPath _ hP) hr rfl (pk_cons (pv 1) pk_nil) (fun _ _ _ _ _ _ _ _ _ _ => .of_eq rfl))))
        pss_nil)
      (pss_cons (ps_if (pt_cmpR op_eq (pv 0) pe_str (nomark _))
        (pss_one (ps_raise rfl (takes_of rfl rfl rfl rfl) (pmk_err1 (T.e_BadPath _ hP) hr rfl (pa_cons (pv 1) pa_nil))))
        pss_nil)
      (pss_cons (ps_if (PW.pt (pw_and (pt_cmpR op_eq (pv 0) pe_str (nomark _)) (pw_and1 (pt_val (pv 2)))))
        (pss_one (ps_raise rfl (takes_of rfl rfl rfl rfl) (pmk_errK1 (T.e_BadText _ hP) hr rfl (pk_cons (pv 1) pk_nil) (fun _ _ _ _ _ _ _ _ _ _ => .of_eq rfl))))
        pss_nil)
      (pss_cons (ps_if (pt_cmpR op_eq (pv 0) pe_str (nomark _))
        (pss_one (ps_raise rfl (takes_of rfl rfl rfl rfl) (pmk_err1 (T.e_BadText _ hP) hr rfl (pa_cons (pv 1) pa_nil))))
        pss_nil)
      (pss_cons (ps_if (pt_cmpR op_eq (pv 0) pe_str (nomark _))
        (pss_one (ps_raise rfl (takes_of rfl rfl rfl rfl) (pmk_errK1 (T.e_BadKind _ hP) hr rfl (pk_cons (pv 1) pk_nil) (fun _ _ _ _ _ _ _ _ _ _ => .of_eq rfl))))
        pss_nil)
      (pss_cons (ps_if (pt_cmpR op_eq (pv 0) pe_str (nomark _))
        (pss_one (ps_raise rfl (takes_of rfl rfl rfl rfl) (pmk_errK1 (T.e_BadAnswer _ hP) hr rfl (pk_cons (pv 1) pk_nil) (fun _ _ _ _ _ _ _ _ _ _ => .of_eq rfl))))
        pss_nil)
      (pss_cons (ps_if (pt_cmpR op_eq (pv 0) pe_str (nomark _))
        (pss_one (ps_raise rfl (takes_of rfl rfl rfl rfl) (pmk_err1 (T.e_BadFaded _ hP) hr rfl (pa_cons (pv 1) pa_nil))))
        pss_nil)
      (pss_one (ps_raise rfl (takes_of rfl rfl rfl rfl) (pmk_err1 (T.e_BadEdit _ hP) hr rfl (pa_cons (pv 1) pa_nil))))))))))), ?_⟩
    match n, hn, k with
    | 0, _, k =>
      cases b with
      | true =>
        refine ⟨_, rfl, rfl, _, rfl, iteDT (by decide +kernel) ?_⟩
        refine ⟨_, rfl, _, rfl, ?_⟩
        refine iteT ?_
        exact ⟨_, rfl, _, rfl, k⟩
      | false =>
        refine ⟨_, rfl, rfl, _, rfl, iteDT (by decide +kernel) ?_⟩
        refine ⟨_, rfl, _, rfl, ?_⟩
        refine iteF ?_
        refine ⟨_, rfl, rfl, _, rfl, iteDT (by decide +kernel) ?_⟩
        exact ⟨_, rfl, _, rfl, k⟩
    | 1, _, k =>
      cases b with
      | true =>
        refine ⟨_, rfl, rfl, _, rfl, iteDF (by decide +kernel) ?_⟩
        refine iteF ?_
        refine ⟨_, rfl, rfl, _, rfl, iteDF (by decide +kernel) ?_⟩
        refine ⟨_, rfl, rfl, _, rfl, iteDT (by decide +kernel) ?_⟩
        refine ⟨_, rfl, _, rfl, ?_⟩
        refine iteT ?_
        exact ⟨_, rfl, _, rfl, k⟩
      | false =>
        refine ⟨_, rfl, rfl, _, rfl, iteDF (by decide +kernel) ?_⟩
        refine iteF ?_
        refine ⟨_, rfl, rfl, _, rfl, iteDF (by decide +kernel) ?_⟩
        refine ⟨_, rfl, rfl, _, rfl, iteDT (by decide +kernel) ?_⟩
        refine ⟨_, rfl, _, rfl, ?_⟩
        refine iteF ?_
        refine ⟨_, rfl, rfl, _, rfl, iteDT (by decide +kernel) ?_⟩
        exact ⟨_, rfl, _, rfl, k⟩
    | 2, _, k =>
      refine ⟨_, rfl, rfl, _, rfl, iteDF (by decide +kernel) ?_⟩
      refine iteF ?_
      refine ⟨_, rfl, rfl, _, rfl, iteDF (by decide +kernel) ?_⟩
      refine ⟨_, rfl, rfl, _, rfl, iteDF (by decide +kernel) ?_⟩
      refine iteF ?_
      refine ⟨_, rfl, rfl, _, rfl, iteDF (by decide +kernel) ?_⟩
      refine ⟨_, rfl, rfl, _, rfl, iteDT (by decide +kernel) ?_⟩
      exact ⟨_, rfl, _, rfl, k⟩
    | 3, _, k =>
      refine ⟨_, rfl, rfl, _, rfl, iteDF (by decide +kernel) ?_⟩
      refine iteF ?_
      refine ⟨_, rfl, rfl, _, rfl, iteDF (by decide +kernel) ?_⟩
      refine ⟨_, rfl, rfl, _, rfl, iteDF (by decide +kernel) ?_⟩
      refine iteF ?_
      refine ⟨_, rfl, rfl, _, rfl, iteDF (by decide +kernel) ?_⟩
      refine ⟨_, rfl, rfl, _, rfl, iteDF (by decide +kernel) ?_⟩
      refine ⟨_, rfl, rfl, _, rfl, iteDT (by decide +kernel) ?_⟩
      exact ⟨_, rfl, _, rfl, k⟩
    | 4, _, k =>
      refine ⟨_, rfl, rfl, _, rfl, iteDF (by decide +kernel) ?_⟩
      refine iteF ?_
      refine ⟨_, rfl, rfl, _, rfl, iteDF (by decide +kernel) ?_⟩
      refine ⟨_, rfl, rfl, _, rfl, iteDF (by decide +kernel) ?_⟩
      refine iteF ?_
      refine ⟨_, rfl, rfl, _, rfl, iteDF (by decide +kernel) ?_⟩
      refine ⟨_, rfl, rfl, _, rfl, iteDF (by decide +kernel) ?_⟩
      refine ⟨_, rfl, rfl, _, rfl, iteDF (by decide +kernel) ?_⟩
      refine ⟨_, rfl, rfl, _, rfl, iteDT (by decide +kernel) ?_⟩
      exact ⟨_, rfl, _, rfl, k⟩
    | 5, _, k =>
      refine ⟨_, rfl, rfl, _, rfl, iteDF (by decide +kernel) ?_⟩
      refine iteF ?_
      refine ⟨_, rfl, rfl, _, rfl, iteDF (by decide +kernel) ?_⟩
      refine ⟨_, rfl, rfl, _, rfl, iteDF (by decide +kernel) ?_⟩
      refine iteF ?_
      refine ⟨_, rfl, rfl, _, rfl, iteDF (by decide +kernel) ?_⟩
      refine ⟨_, rfl, rfl, _, rfl, iteDF (by decide +kernel) ?_⟩
      refine ⟨_, rfl, rfl, _, rfl, iteDF (by decide +kernel) ?_⟩
      refine ⟨_, rfl, rfl, _, rfl, iteDF (by decide +kernel) ?_⟩
      exact ⟨_, rfl, _, rfl, k⟩
/-- the errors with a thing -/
def spThing (T : Txt K mg) : Sp := fun vs H _ E => ∃ (n : Nat) (v : V) (b : Bool), 6 ≤ n ∧ n < 10 ∧ vs = [.str (wd n), v, .bl b] ∧
  (n < 9 → ∀ d, H d = none → E (.ref (eC T n)) (some d) (upd H d (.xd [(fN n, v)]))) ∧
  (n = 9 → ∀ p d, H p = none → p ≠ sysModules → (upd H p (.lst [v])) d = none → E (.ref (eC T n)) (some d) (upd (upd H p (.lst [v])) d (.xd [("line", .ref p), ("name", v)])))
theorem ok_thing (T : Txt K mg) (hP : PrOk P) : FnOk P w K mg base (L2.CX P w) 3 T.f_law_with_thing T.fd_law_with_thing ["_law_word", "_law_worth", "_law_by_name"] (spThing T) := by
  refine T.F_law_with_thing.okX sc_law_with_thing (fun vs H Q E h => ?_) (fun cdv A outer s H vs Q E hr h => ?_)
  · obtain ⟨n, v, b, _, _, rfl, _⟩ := h
    rfl
  · obtain ⟨n, v, b, h6, hn, rfl, k, k9⟩ := h
    refine ⟨_, (pss_cons (ps_if (pt_cmpR op_eq (pv 0) pe_str (nomark _))
        (pss_one (ps_raise rfl (takes_of rfl rfl rfl rfl) (pmk_err1 (T.e_NoModule _ hP) hr rfl (pa_cons (pv 1) pa_nil))))
        pss_nil)
      (pss_cons (ps_if (PW.pt (pw_and (pt_cmpR op_eq (pv 0) pe_str (nomark _)) (pw_and1 (pt_val (pv 2)))))
        (pss_one (ps_raise rfl (takes_of rfl rfl rfl rfl) (pmk_errK1 (T.e_NoDefinition _ hP) hr rfl (pk_cons (pv 1) pk_nil) (fun _ _ _ _ _ _ _ _ _ _ => .of_eq rfl))))
        pss_nil)
      (pss_cons (ps_if (pt_cmpR op_eq (pv 0) pe_str (nomark _))
        (pss_one (ps_raise rfl (takes_of rfl rfl rfl rfl) (pmk_err1 (T.e_NoDefinition _ hP) hr rfl (pa_cons (pv 1) pa_nil))))
        pss_nil)
      (pss_cons (ps_if (pt_cmpR op_eq (pv 0) pe_str (nomark _))
        (pss_one (ps_raise rfl (takes_of rfl rfl rfl rfl) (pmk_err1 (T.e_Used _ hP) hr rfl (pa_cons (pv 1) pa_nil))))
        pss_nil)
      (pss_cons (ps_if (pt_val (pv 2))
        (pss_one (ps_raise rfl (takes_of rfl rfl rfl rfl) (pmk_errK2 (T.e_BadModule _ hP) hr rfl (pk_cons (pe_lstB (pa_cons (pv 1) pa_nil)) (pk_cons (pv 1) pk_nil)) (fun _ _ _ _ _ _ _ _ _ _ _ => .of_eq rfl))))
        pss_nil)
      (pss_one (ps_raise rfl (takes_of rfl rfl rfl rfl) (pmk_err2 (T.e_BadModule _ hP) hr rfl (pa_cons (pv 1) (pa_cons (pe_lstB (pa_cons (pv 1) pa_nil)) pa_nil)))))))))), ?_⟩
    match n, h6, hn, k, k9 with
    | 0, h, _, _, _ | 1, h, _, _, _ | 2, h, _, _, _ | 3, h, _, _, _ | 4, h, _, _, _ | 5, h, _, _, _ => omega
    | 6, _, _, k, _ =>
      refine ⟨_, rfl, rfl, _, rfl, iteDT (by decide +kernel) ?_⟩
      exact ⟨_, rfl, _, rfl, k (by decide)⟩
    | 7, _, _, k, _ =>
      cases b with
      | true =>
        refine ⟨_, rfl, rfl, _, rfl, iteDF (by decide +kernel) ?_⟩
        refine ⟨_, rfl, rfl, _, rfl, iteDT (by decide +kernel) ?_⟩
        refine ⟨_, rfl, _, rfl, ?_⟩
        refine iteT ?_
        exact ⟨_, rfl, _, rfl, k (by decide)⟩
      | false =>
        refine ⟨_, rfl, rfl, _, rfl, iteDF (by decide +kernel) ?_⟩
        refine ⟨_, rfl, rfl, _, rfl, iteDT (by decide +kernel) ?_⟩
        refine ⟨_, rfl, _, rfl, ?_⟩
        refine iteF ?_
        refine ⟨_, rfl, rfl, _, rfl, iteDT (by decide +kernel) ?_⟩
        exact ⟨_, rfl, _, rfl, k (by decide)⟩
    | 8, _, _, k, _ =>
      refine ⟨_, rfl, rfl, _, rfl, iteDF (by decide +kernel) ?_⟩
      refine ⟨_, rfl, rfl, _, rfl, iteDF (by decide +kernel) ?_⟩
      refine iteF ?_
      refine ⟨_, rfl, rfl, _, rfl, iteDF (by decide +kernel) ?_⟩
      refine ⟨_, rfl, rfl, _, rfl, iteDT (by decide +kernel) ?_⟩
      exact ⟨_, rfl, _, rfl, k (by decide)⟩
    | 9, _, _, _, k =>
      refine ⟨_, rfl, rfl, _, rfl, iteDF (by decide +kernel) ?_⟩
      refine ⟨_, rfl, rfl, _, rfl, iteDF (by decide +kernel) ?_⟩
      refine iteF ?_
      refine ⟨_, rfl, rfl, _, rfl, iteDF (by decide +kernel) ?_⟩
      refine ⟨_, rfl, rfl, _, rfl, iteDF (by decide +kernel) ?_⟩
      cases b with
      | true =>
        refine ⟨_, rfl, _, rfl, iteT ?_⟩
        refine ⟨_, rfl, (by show 1 ≤ sizeLine; decide), fun p hp np => ?_⟩
        exact ⟨_, rfl, _, _, rfl, fun d hd => k rfl p d hp np hd⟩
      | false =>
        refine ⟨_, rfl, _, rfl, iteF ?_⟩
        refine ⟨_, rfl, _, rfl, (by show 1 ≤ sizeLine; decide), fun p hp np => ?_⟩
        exact ⟨_, _, rfl, fun d hd => k rfl p d hp np hd⟩
/-- the errors with a message -/
def spMsg (T : Txt K mg) : Sp := fun vs H _ E => ∃ (n : Nat), 10 ≤ n ∧ n < 19 ∧ vs = [.str (wd n)] ∧ E (.ref (eC T n)) none H
theorem ok_msg (T : Txt K mg) (hP : PrOk P) : FnOk P w K mg base (L2.CX P w) 3 T.f_law_with_message T.fd_law_with_message ["_law_word"] (spMsg T) := by
  refine T.F_law_with_message.okX sc_law_with_message (fun vs H Q E h => ?_) (fun cdv A outer s H vs Q E hr h => ?_)
  · obtain ⟨n, _, _, rfl, _⟩ := h
    rfl
  · obtain ⟨n, h6, hn, rfl, k⟩ := h
    refine ⟨_, (pss_cons (ps_if (pt_cmpR op_eq (pv 0) pe_str (nomark _))
        (pss_one (ps_raise rfl (takes_of rfl rfl rfl rfl) (pmk_own PySem.F.excBase_ValueError T.xi_BadTree T.gC_BadTree T.kC_BadTree (raises_own T.xf_BadTree.exC T.ty_BadTree) rfl)))
        pss_nil)
      (pss_cons (ps_if (pt_cmpR op_eq (pv 0) pe_str (nomark _))
        (pss_one (ps_raise rfl (takes_of rfl rfl rfl rfl) (pmk_own PySem.F.excBase_ValueError T.xi_BadStart T.gC_BadStart T.kC_BadStart (raises_own T.xf_BadStart.exC T.ty_BadStart) rfl)))
        pss_nil)
      (pss_cons (ps_if (pt_cmpR op_eq (pv 0) pe_str (nomark _))
        (pss_one (ps_raise rfl (takes_of rfl rfl rfl rfl) (pmk_own PySem.F.excBase_ValueError T.xi_BadArguments T.gC_BadArguments T.kC_BadArguments (raises_own T.xf_BadArguments.exC T.ty_BadArguments) rfl)))
        pss_nil)
      (pss_cons (ps_if (pt_cmpR op_eq (pv 0) pe_str (nomark _))
        (pss_one (ps_raise rfl (takes_of rfl rfl rfl rfl) (pmk_own PySem.F.excBase_ValueError T.xi_BadLimit T.gC_BadLimit T.kC_BadLimit (raises_own T.xf_BadLimit.exC T.ty_BadLimit) rfl)))
        pss_nil)
      (pss_cons (ps_if (pt_cmpR op_eq (pv 0) pe_str (nomark _))
        (pss_one (ps_raise rfl (takes_of rfl rfl rfl rfl) (pmk_own PySem.F.excBase_ValueError T.xi_BadCase T.gC_BadCase T.kC_BadCase (raises_own T.xf_BadCase.exC T.ty_BadCase) rfl)))
        pss_nil)
      (pss_cons (ps_if (pt_cmpR op_eq (pv 0) pe_str (nomark _))
        (pss_one (ps_raise rfl (takes_of rfl rfl rfl rfl) (pmk_own PySem.F.excBase_ValueError T.xi_BadLedger T.gC_BadLedger T.kC_BadLedger (raises_own T.xf_BadLedger.exC T.ty_BadLedger) rfl)))
        pss_nil)
      (pss_cons (ps_if (pt_cmpR op_eq (pv 0) pe_str (nomark _))
        (pss_one (ps_raise rfl (takes_of rfl rfl rfl rfl) (pmk_own PySem.F.excBase_ValueError T.xi_BadBeyond T.gC_BadBeyond T.kC_BadBeyond (raises_own T.xf_BadBeyond.exC T.ty_BadBeyond) rfl)))
        pss_nil)
      (pss_cons (ps_if (pt_cmpR op_eq (pv 0) pe_str (nomark _))
        (pss_one (ps_raise rfl (takes_of rfl rfl rfl rfl) (pmk_own PySem.F.excBase_ValueError T.xi_BadRoute T.gC_BadRoute T.kC_BadRoute (raises_own T.xf_BadRoute.exC T.ty_BadRoute) rfl)))
        pss_nil)
      (pss_one (ps_raise rfl (takes_of rfl rfl rfl rfl) (pmk_own PySem.F.excBase_ValueError T.xi_BadNames T.gC_BadNames T.kC_BadNames (raises_own T.xf_BadNames.exC T.ty_BadNames) rfl))))))))))), ?_⟩
    match n, h6, hn, k with
    | 0, h, _, _ | 1, h, _, _ | 2, h, _, _ | 3, h, _, _ | 4, h, _, _ | 5, h, _, _ | 6, h, _, _ | 7, h, _, _ | 8, h, _, _ | 9, h, _, _ => omega
    | n + 19, _, h, _ => omega
    | 10, _, _, k =>
      refine ⟨_, rfl, rfl, _, rfl, iteDT (by decide +kernel) ?_⟩
      exact k
    | 11, _, _, k =>
      refine ⟨_, rfl, rfl, _, rfl, iteDF (by decide +kernel) ?_⟩
      refine ⟨_, rfl, rfl, _, rfl, iteDT (by decide +kernel) ?_⟩
      exact k
    | 12, _, _, k =>
      refine ⟨_, rfl, rfl, _, rfl, iteDF (by decide +kernel) ?_⟩
      refine ⟨_, rfl, rfl, _, rfl, iteDF (by decide +kernel) ?_⟩
      refine ⟨_, rfl, rfl, _, rfl, iteDT (by decide +kernel) ?_⟩
      exact k
    | 13, _, _, k =>
      refine ⟨_, rfl, rfl, _, rfl, iteDF (by decide +kernel) ?_⟩
      refine ⟨_, rfl, rfl, _, rfl, iteDF (by decide +kernel) ?_⟩
      refine ⟨_, rfl, rfl, _, rfl, iteDF (by decide +kernel) ?_⟩
      refine ⟨_, rfl, rfl, _, rfl, iteDT (by decide +kernel) ?_⟩
      exact k
    | 14, _, _, k =>
      refine ⟨_, rfl, rfl, _, rfl, iteDF (by decide +kernel) ?_⟩
      refine ⟨_, rfl, rfl, _, rfl, iteDF (by decide +kernel) ?_⟩
      refine ⟨_, rfl, rfl, _, rfl, iteDF (by decide +kernel) ?_⟩
      refine ⟨_, rfl, rfl, _, rfl, iteDF (by decide +kernel) ?_⟩
      refine ⟨_, rfl, rfl, _, rfl, iteDT (by decide +kernel) ?_⟩
      exact k
    | 15, _, _, k =>
      refine ⟨_, rfl, rfl, _, rfl, iteDF (by decide +kernel) ?_⟩
      refine ⟨_, rfl, rfl, _, rfl, iteDF (by decide +kernel) ?_⟩
      refine ⟨_, rfl, rfl, _, rfl, iteDF (by decide +kernel) ?_⟩
      refine ⟨_, rfl, rfl, _, rfl, iteDF (by decide +kernel) ?_⟩
      refine ⟨_, rfl, rfl, _, rfl, iteDF (by decide +kernel) ?_⟩
      refine ⟨_, rfl, rfl, _, rfl, iteDT (by decide +kernel) ?_⟩
      exact k
    | 16, _, _, k =>
      refine ⟨_, rfl, rfl, _, rfl, iteDF (by decide +kernel) ?_⟩
      refine ⟨_, rfl, rfl, _, rfl, iteDF (by decide +kernel) ?_⟩
      refine ⟨_, rfl, rfl, _, rfl, iteDF (by decide +kernel) ?_⟩
      refine ⟨_, rfl, rfl, _, rfl, iteDF (by decide +kernel) ?_⟩
      refine ⟨_, rfl, rfl, _, rfl, iteDF (by decide +kernel) ?_⟩
      refine ⟨_, rfl, rfl, _, rfl, iteDF (by decide +kernel) ?_⟩
      refine ⟨_, rfl, rfl, _, rfl, iteDT (by decide +kernel) ?_⟩
      exact k
    | 17, _, _, k =>
      refine ⟨_, rfl, rfl, _, rfl, iteDF (by decide +kernel) ?_⟩
      refine ⟨_, rfl, rfl, _, rfl, iteDF (by decide +kernel) ?_⟩
      refine ⟨_, rfl, rfl, _, rfl, iteDF (by decide +kernel) ?_⟩
      refine ⟨_, rfl, rfl, _, rfl, iteDF (by decide +kernel) ?_⟩
      refine ⟨_, rfl, rfl, _, rfl, iteDF (by decide +kernel) ?_⟩
      refine ⟨_, rfl, rfl, _, rfl, iteDF (by decide +kernel) ?_⟩
      refine ⟨_, rfl, rfl, _, rfl, iteDF (by decide +kernel) ?_⟩
      refine ⟨_, rfl, rfl, _, rfl, iteDT (by decide +kernel) ?_⟩
      exact k
    | 18, _, _, k =>
      refine ⟨_, rfl, rfl, _, rfl, iteDF (by decide +kernel) ?_⟩
      refine ⟨_, rfl, rfl, _, rfl, iteDF (by decide +kernel) ?_⟩
      refine ⟨_, rfl, rfl, _, rfl, iteDF (by decide +kernel) ?_⟩
      refine ⟨_, rfl, rfl, _, rfl, iteDF (by decide +kernel) ?_⟩
      refine ⟨_, rfl, rfl, _, rfl, iteDF (by decide +kernel) ?_⟩
      refine ⟨_, rfl, rfl, _, rfl, iteDF (by decide +kernel) ?_⟩
      refine ⟨_, rfl, rfl, _, rfl, iteDF (by decide +kernel) ?_⟩
      refine ⟨_, rfl, rfl, _, rfl, iteDF (by decide +kernel) ?_⟩
      exact k
end
end Sn

/-! ## law_k01: what is caught -/
namespace Sn
open PySem PySem.Spec PyProof.Rows L2
section
variable {P : Program} {w : World} {K : PySem.W.Frag} {mg : Str → Option Value} {base : Heap}
/-- the error of the class n, made with v, is kept at a -/
def Kept (T : Txt K mg) (H : Hp) (a : Addr) (n : Nat) (v : V) : Prop := ∃ dd : Option Addr, H a = some (ExK (.ref (eC T n)) dd a) ∧ XdOk H dd ∧
  (n < 9 → ∃ d, dd = some d ∧ H d = some (.xd [(fN n, v)])) ∧ (n = 9 → ∃ d p, dd = some d ∧ H d = some (.xd [("line", .ref p), ("name", v)]) ∧ H p = some (.lst [v]) ∧ p ≠ sysModules)
theorem Kept.same {T : Txt K mg} {H H' : Hp} {a : Addr} {n : Nat} {v : V} (h : Kept T H a n v) (s : Same H H') : Kept T H' a n v := by
  obtain ⟨dd, h1, h2, h3, h4⟩ := h
  refine ⟨dd, s _ _ h1, ?_, fun z => ?_, fun z => ?_⟩
  · rcases h2 with h | ⟨d, fs, e, h⟩
    · exact .inl h
    · exact .inr ⟨d, fs, e, s _ _ h⟩
  · obtain ⟨d, e, h⟩ := h3 z
    exact ⟨d, e, s _ _ h⟩
  · obtain ⟨d, p, e, h, hp, np⟩ := h4 z
    exact ⟨d, p, e, s _ _ h, s _ _ hp, np⟩
theorem m_all (T : Txt K mg) : ∀ C ∈ eL T, PySem.W.exmOne K (.ref C) (.ref T.C_SpareError) = some true := by
  intro C hC
  simp only [eL, List.mem_cons, List.not_mem_nil, or_false] at hC
  rcases hC with rfl | rfl | rfl | rfl | rfl | rfl | rfl | rfl | rfl | rfl | rfl | rfl | rfl | rfl | rfl | rfl | rfl | rfl | rfl
  · exact T.m_BadPath
  · exact T.m_BadText
  · exact T.m_BadKind
  · exact T.m_BadAnswer
  · exact T.m_BadFaded
  · exact T.m_BadEdit
  · exact T.m_NoModule
  · exact T.m_NoDefinition
  · exact T.m_Used
  · exact T.m_BadModule
  · exact T.m_BadTree
  · exact T.m_BadStart
  · exact T.m_BadArguments
  · exact T.m_BadLimit
  · exact T.m_BadCase
  · exact T.m_BadLedger
  · exact T.m_BadBeyond
  · exact T.m_BadRoute
  · exact T.m_BadNames
theorem eC_mem (T : Txt K mg) {n : Nat} (h : n < 19) : eC T n ∈ eL T := by
  unfold eC
  rw [List.getD_eq_getElem?_getD, List.getElem?_eq_getElem (by exact h)]
  exact List.getElem_mem _
def spRaised (T : Txt K mg) : Sp := fun vs H Q _ => ∃ (n : Nat) (v : V) (b : Bool), n < 19 ∧ vs = [.int n, v, .bl b] ∧ ∀ a H', Same H H' → Kept T H' a n v → Q (.ref a) H'
theorem ok_raised (T : Txt K mg) (hP : PrOk P) : FnOk P w K mg base CX0 4 T.f_law_raised T.fd_law_raised ["_law_at", "_law_worth", "_law_by_name"] (spRaised T) := by
  refine T.F_law_raised.ok sc_law_raised (fun vs H Q E h => ?_) (fun cdv A outer s H vs Q E hr h => ?_)
  · obtain ⟨n, v, b, _, rfl, _⟩ := h
    rfl
  · obtain ⟨n, v, b, hn, rfl, k⟩ := h
    have GN : FnOk P w K mg base (L2.CX P w) 3 T.f_law_with_number T.fd_law_with_number ["_law_word", "_law_worth", "_law_by_name"] (spNum T) := ok_num T hP
    have GT : FnOk P w K mg base (L2.CX P w) 3 T.f_law_with_thing T.fd_law_with_thing ["_law_word", "_law_worth", "_law_by_name"] (spThing T) := ok_thing T hP
    have GM : FnOk P w K mg base (L2.CX P w) 3 T.f_law_with_message T.fd_law_with_message ["_law_word"] (spMsg T) := ok_msg T hP
    refine ⟨_, (pss_cons (ps_par (i := 3) (j := 4) (by rfl) sc_law_raised.nd rfl rfl (by decide) rfl rfl (pa_cons (pe_lstB (pa_cons pe_str (pa_cons pe_str (pa_cons pe_str (pa_cons pe_str (pa_cons pe_str (pa_cons pe_str (pa_cons pe_str (pa_cons pe_str (pa_cons pe_str (pa_cons pe_str pa_nil))))))))))) (pa_cons pe_non pa_nil)) (by rfl))
      (pss_cons (ps_set (i := 3) sc_law_raised.nd rfl (Or.inl rfl) (pe_op op_cat (pv 3) (pe_lstB (pa_cons pe_str (pa_cons pe_str (pa_cons pe_str (pa_cons pe_str (pa_cons pe_str (pa_cons pe_str (pa_cons pe_str (pa_cons pe_str (pa_cons pe_str pa_nil))))))))))))
      (pss_cons (ps_try_keep (i := 5) rfl rfl rfl sc_law_raised.nd rfl rfl ⟨rfl, by decide, .inl T.gC_SpareError⟩
        (fun W pn xe tk _ => (pss_one (ps_if (pt_cmpR op_lt (pv 0) pe_int (nomark _))
        (pss_one (ps_expr (pe_callS GN (hr.mono (by decide)) rfl T.g_law_with_number T.F_law_with_number.kp T.b_law_with_number (fun σ => passAt tk σ) (pa_cons (pe_ix (ix_listK (K := K)) (pv 3) (pv 0) (fun _ _ => rfl)) (pa_cons (pv 1) (pa_cons (pv 2) pa_nil))))))
        (pss_one (ps_if (pt_cmpR op_lt (pv 0) pe_int (nomark _))
        (pss_one (ps_expr (pe_callS GT (hr.mono (by decide)) rfl T.g_law_with_thing T.F_law_with_thing.kp T.b_law_with_thing (fun σ => passAt tk σ) (pa_cons (pe_ix (ix_listK (K := K)) (pv 3) (pv 0) (fun _ _ => rfl)) (pa_cons (pv 1) (pa_cons (pv 2) pa_nil))))))
        (pss_one (ps_expr (pe_callS GM (hr.mono (by decide)) rfl T.g_law_with_message T.F_law_with_message.kp T.b_law_with_message (fun σ => passAt tk σ) (pa_cons (pe_ix (ix_listK (K := K)) (pv 3) (pv 0) (fun _ _ => rfl)) pa_nil)))))))))
        (fun a oe cls d pn hz hf => (pss_one (ps_set (i := 4) sc_law_raised.nd rfl (Or.inl rfl) (pv 5)))))
      (pss_one (ps_ret (pv 4)))))), ?_⟩
    refine ⟨(by show 10 ≤ sizeLine; decide), fun L1 h1 _ => ?_⟩
    refine ⟨_, _, rfl, _, rfl, (by show 9 ≤ sizeLine; decide), fun L2 h2 _ => ?_⟩
    have s2 := (same_new (o := .lst [.str "path", .str "text", .str "kind", .str "answer", .str "faded", .str "edit", .str "module", .str "definition", .str "used", .str "pair"]) h1)
    have s3 := same_new (o := .lst [.str "tree", .str "start", .str "arguments", .str "limit", .str "case", .str "ledger", .str "beyond", .str "route", .str "names"]) h2
    refine ⟨L1, L2, _, _, rfl, rfl, s3 _ _ upd_same, upd_same, (by show 10 + 9 ≤ sizeLine; decide), fun L3 h3 => ?_⟩
    have s4 := (s2.trans s3).trans (same_new (o := .lst (wds.map V.str)) h3)
    have hL : (upd (upd (upd H L1 (.lst [.str "path", .str "text", .str "kind", .str "answer", .str "faded", .str "edit", .str "module", .str "definition", .str "used", .str "pair"])) L2 (.lst [.str "tree", .str "start", .str "arguments", .str "limit", .str "case", .str "ledger", .str "beyond", .str "route", .str "names"])) L3 (.lst (wds.map V.str))) L3 = some (.lst (wds.map V.str)) := upd_same
    show (fun H3 => _) (upd (upd (upd H L1 (.lst [.str "path", .str "text", .str "kind", .str "answer", .str "faded", .str "edit", .str "module", .str "definition", .str "used", .str "pair"])) L2 (.lst [.str "tree", .str "start", .str "arguments", .str "limit", .str "case", .str "ledger", .str "beyond", .str "route", .str "names"])) L3 (.lst (wds.map V.str)))
    generalize upd (upd (upd H L1 (.lst [.str "path", .str "text", .str "kind", .str "answer", .str "faded", .str "edit", .str "module", .str "definition", .str "used", .str "pair"])) L2 (.lst [.str "tree", .str "start", .str "arguments", .str "limit", .str "case", .str "ledger", .str "beyond", .str "route", .str "names"])) L3 (.lst (wds.map V.str)) = H3 at s4 hL
    have ix : atI (wds.map V.str) (n : Int) = some (.str (wd n)) := by
      refine atI_nat (j := n) ?_
      unfold wd
      rw [List.getElem?_map, List.getD_eq_getElem?_getD, List.getElem?_eq_getElem (show n < wds.length by exact hn)]
      rfl
    have ixr : ∀ {R : VK}, R (.str (wd n)) H3 → rIxL K (.ref L3) (.int n) H3 R := fun {R} q => ⟨L3, _, _, _, rfl, rfl, .inl (.inl hL), ix, q⟩
    have fin : n < 9 → ∀ {d a : Addr}, H3 d = none → (upd H3 d (.xd [(fN n, v)])) a = none → tAsg (tVar 5) (gName 4) (kpEnds { nx := tRet (tVar 4) { nx := fun _ H' => Q .non H', rt := Q }, rt := Q } 5 a (.ref (eC T n)) (some d))
        (([some (.int n), some v, some (.bl b), some (.ref L3), some .non, none] : List (Option V)).set 5 (some (.ref a))) (upd H3 d (.xd [(fN n, v)])) := fun h9 {d a} hd na => by
      refine ⟨_, rfl, fun _ => ?_⟩
      have s6 := same_new (o := .xd [(fN n, v)]) hd
      have s7 := same_new (o := ExK (.ref (eC T n)) (some d) a) na
      have hd2 := s7 _ _ (upd_same (H := H3) (a := d) (o := .xd [(fN n, v)]))
      exact ⟨_, rfl, k a _ ((s4.trans s6).trans s7) ⟨some d, upd_same, .inr ⟨d, _, rfl, hd2⟩, fun _ => ⟨d, rfl, hd2⟩, fun z => by omega⟩⟩
    refine ⟨_, rfl, _, _, rfl, rfl, _, rfl, ?_⟩
    by_cases h6 : n < 6
    · rw [decide_eq_true (show ((n : Nat) : Int) < 6 by omega)]
      refine iteT ?_
      refine ⟨_, rfl, _, rfl, ixr ⟨_, rfl, _, rfl, n, v, b, h6, rfl, fun d hd => ⟨m_all T _ (eC_mem T hn), fun a na => ?_⟩⟩⟩
      exact fin (by omega) hd na
    · rw [decide_eq_false (show ¬ ((n : Nat) : Int) < 6 by omega)]
      refine iteF ?_
      refine ⟨_, rfl, _, _, rfl, rfl, _, rfl, ?_⟩
      by_cases h10 : n < 10
      · rw [decide_eq_true (show ((n : Nat) : Int) < 10 by omega)]
        refine iteT ?_
        refine ⟨_, rfl, _, rfl, ixr ⟨_, rfl, _, rfl, n, v, b, by omega, h10, rfl, fun h9 d hd => ⟨m_all T _ (eC_mem T hn), fun a na => ?_⟩, fun h9 p d hp np hd => ⟨m_all T _ (eC_mem T hn), fun a na => ?_⟩⟩⟩
        · exact fin h9 hd na
        · refine ⟨_, rfl, fun _ => ?_⟩
          have ad : d ≠ a := fun z => by rw [← z, upd_same] at na; cases na
          have s5 := (same_new (o := .lst [v]) hp)
          have s6 := same_new (o := .xd [("line", .ref p), ("name", v)]) hd
          have s7 := same_new (o := ExK (.ref (eC T n)) (some d) a) na
          have hd2 := s7 _ _ (upd_same (H := upd H3 p (.lst [v])) (a := d) (o := .xd [("line", .ref p), ("name", v)]))
          exact ⟨_, rfl, k a _ (((s4.trans s5).trans s6).trans s7) ⟨some d, upd_same, .inr ⟨d, _, rfl, hd2⟩, fun z => by omega, fun _ => ⟨d, p, rfl, hd2, (s6.trans s7) _ _ upd_same, np⟩⟩⟩
      · rw [decide_eq_false (show ¬ ((n : Nat) : Int) < 10 by omega)]
        refine iteF ?_
        refine ⟨_, rfl, _, rfl, ixr ⟨n, by omega, hn, rfl, m_all T _ (eC_mem T hn), fun a na => ?_⟩⟩
        refine ⟨_, rfl, fun _ => ?_⟩
        exact ⟨_, rfl, k a _ (s4.trans (same_new na)) ⟨none, upd_same, .inl rfl, fun z => by omega, fun z => by omega⟩⟩
end
end Sn

/-! ## law_k01: which class an error is of, what it kept -/
namespace Sn
open PySem PySem.Spec PyProof.Rows L2
section
variable {P : Program} {w : World} {K : PySem.W.Frag} {mg : Str → Option Value} {base : Heap}
/-- what is known of a class -/
structure EcI (T : Txt K mg) (C : Addr) : Prop where
  x : ExcC K C
  xf : XfC K C
  ty : PySem.W.typeIn K (.ref C) = some (.type "type")
  mr : ∃ cd : ClassData, PySem.W.clsIn K C = some cd ∧ cd.mro = [.ref C, .ref T.C_SpareError, .type "ValueError", .type "Exception", .type "BaseException", .type "object"]
theorem ec_all (T : Txt K mg) : ∀ C ∈ eL T, EcI T C := by
  intro C hC
  simp only [eL, List.mem_cons, List.not_mem_nil, or_false] at hC
  rcases hC with rfl | rfl | rfl | rfl | rfl | rfl | rfl | rfl | rfl | rfl | rfl | rfl | rfl | rfl | rfl | rfl | rfl | rfl | rfl
  · exact ⟨T.x_BadPath, T.xf_BadPath, T.ty_BadPath, T.mr_BadPath⟩
  · exact ⟨T.x_BadText, T.xf_BadText, T.ty_BadText, T.mr_BadText⟩
  · exact ⟨T.x_BadKind, T.xf_BadKind, T.ty_BadKind, T.mr_BadKind⟩
  · exact ⟨T.x_BadAnswer, T.xf_BadAnswer, T.ty_BadAnswer, T.mr_BadAnswer⟩
  · exact ⟨T.x_BadFaded, T.xf_BadFaded, T.ty_BadFaded, T.mr_BadFaded⟩
  · exact ⟨T.x_BadEdit, T.xf_BadEdit, T.ty_BadEdit, T.mr_BadEdit⟩
  · exact ⟨T.x_NoModule, T.xf_NoModule, T.ty_NoModule, T.mr_NoModule⟩
  · exact ⟨T.x_NoDefinition, T.xf_NoDefinition, T.ty_NoDefinition, T.mr_NoDefinition⟩
  · exact ⟨T.x_Used, T.xf_Used, T.ty_Used, T.mr_Used⟩
  · exact ⟨T.x_BadModule, T.xf_BadModule, T.ty_BadModule, T.mr_BadModule⟩
  · exact ⟨T.x_BadTree, T.xf_BadTree, T.ty_BadTree, T.mr_BadTree⟩
  · exact ⟨T.x_BadStart, T.xf_BadStart, T.ty_BadStart, T.mr_BadStart⟩
  · exact ⟨T.x_BadArguments, T.xf_BadArguments, T.ty_BadArguments, T.mr_BadArguments⟩
  · exact ⟨T.x_BadLimit, T.xf_BadLimit, T.ty_BadLimit, T.mr_BadLimit⟩
  · exact ⟨T.x_BadCase, T.xf_BadCase, T.ty_BadCase, T.mr_BadCase⟩
  · exact ⟨T.x_BadLedger, T.xf_BadLedger, T.ty_BadLedger, T.mr_BadLedger⟩
  · exact ⟨T.x_BadBeyond, T.xf_BadBeyond, T.ty_BadBeyond, T.mr_BadBeyond⟩
  · exact ⟨T.x_BadRoute, T.xf_BadRoute, T.ty_BadRoute, T.mr_BadRoute⟩
  · exact ⟨T.x_BadNames, T.xf_BadNames, T.ty_BadNames, T.mr_BadNames⟩
theorem eL_nodup (T : Txt K mg) : (T.C_SpareError :: eL T).Nodup := by
  exact T.dif
theorem eC_inj (T : Txt K mg) {i j : Nat} (hi : i < 19) (hj : j < 19) : eC T i = eC T j ↔ i = j := by
  have d := (List.nodup_cons.mp (eL_nodup T)).2
  unfold eC
  rw [List.getD_eq_getElem?_getD, List.getD_eq_getElem?_getD, List.getElem?_eq_getElem (show i < (eL T).length from hi), List.getElem?_eq_getElem (show j < (eL T).length from hj)]
  simp only [Option.getD_some]
  constructor
  · intro e
    rcases Nat.lt_trichotomy i j with h | h | h
    · exact absurd e (List.pairwise_iff_getElem.mp d i j hi hj h)
    · exact h
    · exact absurd e.symm (List.pairwise_iff_getElem.mp d j i hj hi h)
  · intro e
    subst e
    rfl
theorem eC_ne (T : Txt K mg) {j : Nat} (hj : j < 19) : eC T j ≠ T.C_SpareError := fun e =>
  (List.nodup_cons.mp (eL_nodup T)).1 (e ▸ eC_mem T hj)
theorem kit_err (T : Txt K mg) {n j : Nat} (hn : n < 19) (hj : j < 19) : PySem.W.kitOne K (.ref (eC T n)) (.ref (eC T j)) = some (decide (j = n)) := by
  obtain ⟨cd, h1, h2⟩ := (ec_all T _ (eC_mem T hn)).mr
  have I2 := ec_all T _ (eC_mem T hj)
  obtain ⟨cd2, h3, _⟩ := I2.mr
  by_cases e : j = n
  · subst e
    rw [decide_eq_true rfl]
    unfold PySem.W.kitOne
    rw [if_pos (by simp)]
  · rw [decide_eq_false e]
    have ne : eC T n ≠ eC T j := fun z => e ((eC_inj T hn hj).mp z).symm
    unfold PySem.W.kitOne
    rw [if_neg (by simpa using ne)]
    unfold PySem.W.kitCls
    simp only [h3, I2.ty, Option.isSome_some, beq_self_eq_true, Bool.and_self, if_true]
    show PySem.W.mroIn K (eC T n) _ = _
    unfold PySem.W.mroIn
    rw [h1, Option.bind_some, h2]
    have n2 := eC_ne T hj
    simp [ne.symm, n2]
theorem kit_ve (T : Txt K mg) {n : Nat} (hn : n < 19) : PySem.W.kitOne K (.ref (eC T n)) (.type "ValueError") = some true := by
  obtain ⟨cd, h1, h2⟩ := (ec_all T _ (eC_mem T hn)).mr
  unfold PySem.W.kitOne
  rw [if_neg (by simp)]
  have km : PySem.W.kitMeta "ValueError" = true := by decide +kernel
  unfold PySem.W.kitCls
  simp only [km, if_true]
  show PySem.W.mroIn K (eC T n) _ = _
  unfold PySem.W.mroIn
  rw [h1, Option.bind_some, h2]
  rfl
theorem XdOk.same {H H' : Hp} {d : Option Addr} (h : XdOk H d) (s : Same H H') : XdOk H' d := by
  rcases h with h | ⟨a, fs, e, h⟩
  · exact .inl h
  · exact .inr ⟨a, fs, e, s _ _ h⟩
def mks (n k : Nat) : List V := (List.range k).map fun j => V.bl (decide (j = n))
def spMarks (T : Txt K mg) : Sp := fun vs H Q _ => ∃ (a : Addr) (n : Nat) (v : V), n < 19 ∧ vs = [.ref a] ∧ Kept T H a n v ∧ ∀ p H', Same H H' → H' p = some (.lst (mks n 19)) → Q (.ref p) H'
theorem ok_marks (T : Txt K mg) : FnOk P w K mg base CX0 1 T.f_law_marks T.fd_law_marks ["_law_error"] (spMarks T) := by
  refine T.F_law_marks.ok sc_law_marks (fun vs H Q E h => ?_) (fun cdv A outer s H vs Q E hr h => ?_)
  · obtain ⟨a, n, v, _, rfl, _⟩ := h
    rfl
  · obtain ⟨a, n, v, hn, rfl, kp, k⟩ := h
    refine ⟨_, (pss_cons (ps_set (i := 1) sc_law_marks.nd rfl (Or.inl rfl) (pe_lstB (pa_cons (pe_callB call_isX (by rfl) T.z_isinstance (by decide +kernel) (pa_cons (pv 0) (pa_cons (pe_glob (v := .ref T.C_BadPath) rfl T.gC_BadPath rfl) pa_nil))) (pa_cons (pe_callB call_isX (by rfl) T.z_isinstance (by decide +kernel) (pa_cons (pv 0) (pa_cons (pe_glob (v := .ref T.C_BadText) rfl T.gC_BadText rfl) pa_nil))) (pa_cons (pe_callB call_isX (by rfl) T.z_isinstance (by decide +kernel) (pa_cons (pv 0) (pa_cons (pe_glob (v := .ref T.C_BadKind) rfl T.gC_BadKind rfl) pa_nil))) pa_nil)))))
      (pss_cons (ps_set (i := 1) sc_law_marks.nd rfl (Or.inl rfl) (pe_op op_cat (pv 1) (pe_lstB (pa_cons (pe_callB call_isX (by rfl) T.z_isinstance (by decide +kernel) (pa_cons (pv 0) (pa_cons (pe_glob (v := .ref T.C_BadAnswer) rfl T.gC_BadAnswer rfl) pa_nil))) (pa_cons (pe_callB call_isX (by rfl) T.z_isinstance (by decide +kernel) (pa_cons (pv 0) (pa_cons (pe_glob (v := .ref T.C_BadFaded) rfl T.gC_BadFaded rfl) pa_nil))) (pa_cons (pe_callB call_isX (by rfl) T.z_isinstance (by decide +kernel) (pa_cons (pv 0) (pa_cons (pe_glob (v := .ref T.C_BadEdit) rfl T.gC_BadEdit rfl) pa_nil))) pa_nil))))))
      (pss_cons (ps_set (i := 1) sc_law_marks.nd rfl (Or.inl rfl) (pe_op op_cat (pv 1) (pe_lstB (pa_cons (pe_callB call_isX (by rfl) T.z_isinstance (by decide +kernel) (pa_cons (pv 0) (pa_cons (pe_glob (v := .ref T.C_NoModule) rfl T.gC_NoModule rfl) pa_nil))) (pa_cons (pe_callB call_isX (by rfl) T.z_isinstance (by decide +kernel) (pa_cons (pv 0) (pa_cons (pe_glob (v := .ref T.C_NoDefinition) rfl T.gC_NoDefinition rfl) pa_nil))) (pa_cons (pe_callB call_isX (by rfl) T.z_isinstance (by decide +kernel) (pa_cons (pv 0) (pa_cons (pe_glob (v := .ref T.C_Used) rfl T.gC_Used rfl) pa_nil))) pa_nil))))))
      (pss_cons (ps_set (i := 1) sc_law_marks.nd rfl (Or.inl rfl) (pe_op op_cat (pv 1) (pe_lstB (pa_cons (pe_callB call_isX (by rfl) T.z_isinstance (by decide +kernel) (pa_cons (pv 0) (pa_cons (pe_glob (v := .ref T.C_BadModule) rfl T.gC_BadModule rfl) pa_nil))) (pa_cons (pe_callB call_isX (by rfl) T.z_isinstance (by decide +kernel) (pa_cons (pv 0) (pa_cons (pe_glob (v := .ref T.C_BadTree) rfl T.gC_BadTree rfl) pa_nil))) (pa_cons (pe_callB call_isX (by rfl) T.z_isinstance (by decide +kernel) (pa_cons (pv 0) (pa_cons (pe_glob (v := .ref T.C_BadStart) rfl T.gC_BadStart rfl) pa_nil))) pa_nil))))))
      (pss_cons (ps_set (i := 1) sc_law_marks.nd rfl (Or.inl rfl) (pe_op op_cat (pv 1) (pe_lstB (pa_cons (pe_callB call_isX (by rfl) T.z_isinstance (by decide +kernel) (pa_cons (pv 0) (pa_cons (pe_glob (v := .ref T.C_BadArguments) rfl T.gC_BadArguments rfl) pa_nil))) (pa_cons (pe_callB call_isX (by rfl) T.z_isinstance (by decide +kernel) (pa_cons (pv 0) (pa_cons (pe_glob (v := .ref T.C_BadLimit) rfl T.gC_BadLimit rfl) pa_nil))) (pa_cons (pe_callB call_isX (by rfl) T.z_isinstance (by decide +kernel) (pa_cons (pv 0) (pa_cons (pe_glob (v := .ref T.C_BadCase) rfl T.gC_BadCase rfl) pa_nil))) pa_nil))))))
      (pss_cons (ps_set (i := 1) sc_law_marks.nd rfl (Or.inl rfl) (pe_op op_cat (pv 1) (pe_lstB (pa_cons (pe_callB call_isX (by rfl) T.z_isinstance (by decide +kernel) (pa_cons (pv 0) (pa_cons (pe_glob (v := .ref T.C_BadLedger) rfl T.gC_BadLedger rfl) pa_nil))) (pa_cons (pe_callB call_isX (by rfl) T.z_isinstance (by decide +kernel) (pa_cons (pv 0) (pa_cons (pe_glob (v := .ref T.C_BadBeyond) rfl T.gC_BadBeyond rfl) pa_nil))) (pa_cons (pe_callB call_isX (by rfl) T.z_isinstance (by decide +kernel) (pa_cons (pv 0) (pa_cons (pe_glob (v := .ref T.C_BadRoute) rfl T.gC_BadRoute rfl) pa_nil))) pa_nil))))))
      (pss_one (ps_ret (pe_op op_cat (pv 1) (pe_lstB (pa_cons (pe_callB call_isX (by rfl) T.z_isinstance (by decide +kernel) (pa_cons (pv 0) (pa_cons (pe_glob (v := .ref T.C_BadNames) rfl T.gC_BadNames rfl) pa_nil))) pa_nil))))))))))), ?_⟩
    obtain ⟨dd, h1, h2, _⟩ := kp
    have xc := (ec_all T _ (eC_mem T hn)).x
    refine ⟨_, rfl, a, eC T n, dd, .ref (eC T 0), .ref (eC T 0), _, rfl, h1, h2, xc, .own _, kit_err T hn (show 0 < 19 by decide), _, rfl, a, eC T n, dd, .ref (eC T 1), .ref (eC T 1), _, rfl, h1, h2, xc, .own _, kit_err T hn (show 1 < 19 by decide), _, rfl, a, eC T n, dd, .ref (eC T 2), .ref (eC T 2), _, rfl, h1, h2, xc, .own _, kit_err T hn (show 2 < 19 by decide), (by show 3 ≤ sizeLine; decide), fun p0 hp0 _ => ?_⟩
    have s0 := same_new (o := .lst (mks n 3)) hp0
    have g0 : (upd H p0 (.lst (mks n 3))) p0 = some (.lst (mks n 3)) := upd_same
    show (fun H0 => _) (upd H p0 (.lst (mks n 3)))
    generalize upd H p0 (.lst (mks n 3)) = H0 at s0 g0
    have a0 := s0 _ _ h1
    have x0 := h2.same s0
    refine ⟨_, rfl, _, rfl, a, eC T n, dd, .ref (eC T 3), .ref (eC T 3), _, rfl, a0, x0, xc, .own _, kit_err T hn (show 3 < 19 by decide), _, rfl, a, eC T n, dd, .ref (eC T 4), .ref (eC T 4), _, rfl, a0, x0, xc, .own _, kit_err T hn (show 4 < 19 by decide), _, rfl, a, eC T n, dd, .ref (eC T 5), .ref (eC T 5), _, rfl, a0, x0, xc, .own _, kit_err T hn (show 5 < 19 by decide), (by show 3 ≤ sizeLine; decide), fun q1 hq1 _ => ?_⟩
    have t1 := same_new (o := .lst [.bl (decide (3 = n)), .bl (decide (4 = n)), .bl (decide (5 = n))]) hq1
    refine ⟨p0, q1, _, _, rfl, rfl, t1 _ _ g0, upd_same, (by show 6 ≤ sizeLine; decide), fun p1 hp1 => ?_⟩
    have s1 := (s0.trans t1).trans (same_new (o := .lst (mks n 6)) hp1)
    have g1 : (upd (upd H0 q1 (.lst [.bl (decide (3 = n)), .bl (decide (4 = n)), .bl (decide (5 = n))])) p1 (.lst (mks n 6))) p1 = some (.lst (mks n 6)) := upd_same
    show (fun H0 => _) (upd (upd H0 q1 (.lst [.bl (decide (3 = n)), .bl (decide (4 = n)), .bl (decide (5 = n))])) p1 (.lst (mks n 6)))
    generalize upd (upd H0 q1 (.lst [.bl (decide (3 = n)), .bl (decide (4 = n)), .bl (decide (5 = n))])) p1 (.lst (mks n 6)) = H1 at s1 g1
    have a1 := s1 _ _ h1
    have x1 := h2.same s1
    refine ⟨_, rfl, _, rfl, a, eC T n, dd, .ref (eC T 6), .ref (eC T 6), _, rfl, a1, x1, xc, .own _, kit_err T hn (show 6 < 19 by decide), _, rfl, a, eC T n, dd, .ref (eC T 7), .ref (eC T 7), _, rfl, a1, x1, xc, .own _, kit_err T hn (show 7 < 19 by decide), _, rfl, a, eC T n, dd, .ref (eC T 8), .ref (eC T 8), _, rfl, a1, x1, xc, .own _, kit_err T hn (show 8 < 19 by decide), (by show 3 ≤ sizeLine; decide), fun q2 hq2 _ => ?_⟩
    have t2 := same_new (o := .lst [.bl (decide (6 = n)), .bl (decide (7 = n)), .bl (decide (8 = n))]) hq2
    refine ⟨p1, q2, _, _, rfl, rfl, t2 _ _ g1, upd_same, (by show 9 ≤ sizeLine; decide), fun p2 hp2 => ?_⟩
    have s2 := (s1.trans t2).trans (same_new (o := .lst (mks n 9)) hp2)
    have g2 : (upd (upd H1 q2 (.lst [.bl (decide (6 = n)), .bl (decide (7 = n)), .bl (decide (8 = n))])) p2 (.lst (mks n 9))) p2 = some (.lst (mks n 9)) := upd_same
    show (fun H0 => _) (upd (upd H1 q2 (.lst [.bl (decide (6 = n)), .bl (decide (7 = n)), .bl (decide (8 = n))])) p2 (.lst (mks n 9)))
    generalize upd (upd H1 q2 (.lst [.bl (decide (6 = n)), .bl (decide (7 = n)), .bl (decide (8 = n))])) p2 (.lst (mks n 9)) = H2 at s2 g2
    have a2 := s2 _ _ h1
    have x2 := h2.same s2
    refine ⟨_, rfl, _, rfl, a, eC T n, dd, .ref (eC T 9), .ref (eC T 9), _, rfl, a2, x2, xc, .own _, kit_err T hn (show 9 < 19 by decide), _, rfl, a, eC T n, dd, .ref (eC T 10), .ref (eC T 10), _, rfl, a2, x2, xc, .own _, kit_err T hn (show 10 < 19 by decide), _, rfl, a, eC T n, dd, .ref (eC T 11), .ref (eC T 11), _, rfl, a2, x2, xc, .own _, kit_err T hn (show 11 < 19 by decide), (by show 3 ≤ sizeLine; decide), fun q3 hq3 _ => ?_⟩
    have t3 := same_new (o := .lst [.bl (decide (9 = n)), .bl (decide (10 = n)), .bl (decide (11 = n))]) hq3
    refine ⟨p2, q3, _, _, rfl, rfl, t3 _ _ g2, upd_same, (by show 12 ≤ sizeLine; decide), fun p3 hp3 => ?_⟩
    have s3 := (s2.trans t3).trans (same_new (o := .lst (mks n 12)) hp3)
    have g3 : (upd (upd H2 q3 (.lst [.bl (decide (9 = n)), .bl (decide (10 = n)), .bl (decide (11 = n))])) p3 (.lst (mks n 12))) p3 = some (.lst (mks n 12)) := upd_same
    show (fun H0 => _) (upd (upd H2 q3 (.lst [.bl (decide (9 = n)), .bl (decide (10 = n)), .bl (decide (11 = n))])) p3 (.lst (mks n 12)))
    generalize upd (upd H2 q3 (.lst [.bl (decide (9 = n)), .bl (decide (10 = n)), .bl (decide (11 = n))])) p3 (.lst (mks n 12)) = H3 at s3 g3
    have a3 := s3 _ _ h1
    have x3 := h2.same s3
    refine ⟨_, rfl, _, rfl, a, eC T n, dd, .ref (eC T 12), .ref (eC T 12), _, rfl, a3, x3, xc, .own _, kit_err T hn (show 12 < 19 by decide), _, rfl, a, eC T n, dd, .ref (eC T 13), .ref (eC T 13), _, rfl, a3, x3, xc, .own _, kit_err T hn (show 13 < 19 by decide), _, rfl, a, eC T n, dd, .ref (eC T 14), .ref (eC T 14), _, rfl, a3, x3, xc, .own _, kit_err T hn (show 14 < 19 by decide), (by show 3 ≤ sizeLine; decide), fun q4 hq4 _ => ?_⟩
    have t4 := same_new (o := .lst [.bl (decide (12 = n)), .bl (decide (13 = n)), .bl (decide (14 = n))]) hq4
    refine ⟨p3, q4, _, _, rfl, rfl, t4 _ _ g3, upd_same, (by show 15 ≤ sizeLine; decide), fun p4 hp4 => ?_⟩
    have s4 := (s3.trans t4).trans (same_new (o := .lst (mks n 15)) hp4)
    have g4 : (upd (upd H3 q4 (.lst [.bl (decide (12 = n)), .bl (decide (13 = n)), .bl (decide (14 = n))])) p4 (.lst (mks n 15))) p4 = some (.lst (mks n 15)) := upd_same
    show (fun H0 => _) (upd (upd H3 q4 (.lst [.bl (decide (12 = n)), .bl (decide (13 = n)), .bl (decide (14 = n))])) p4 (.lst (mks n 15)))
    generalize upd (upd H3 q4 (.lst [.bl (decide (12 = n)), .bl (decide (13 = n)), .bl (decide (14 = n))])) p4 (.lst (mks n 15)) = H4 at s4 g4
    have a4 := s4 _ _ h1
    have x4 := h2.same s4
    refine ⟨_, rfl, _, rfl, a, eC T n, dd, .ref (eC T 15), .ref (eC T 15), _, rfl, a4, x4, xc, .own _, kit_err T hn (show 15 < 19 by decide), _, rfl, a, eC T n, dd, .ref (eC T 16), .ref (eC T 16), _, rfl, a4, x4, xc, .own _, kit_err T hn (show 16 < 19 by decide), _, rfl, a, eC T n, dd, .ref (eC T 17), .ref (eC T 17), _, rfl, a4, x4, xc, .own _, kit_err T hn (show 17 < 19 by decide), (by show 3 ≤ sizeLine; decide), fun q5 hq5 _ => ?_⟩
    have t5 := same_new (o := .lst [.bl (decide (15 = n)), .bl (decide (16 = n)), .bl (decide (17 = n))]) hq5
    refine ⟨p4, q5, _, _, rfl, rfl, t5 _ _ g4, upd_same, (by show 18 ≤ sizeLine; decide), fun p5 hp5 => ?_⟩
    have s5 := (s4.trans t5).trans (same_new (o := .lst (mks n 18)) hp5)
    have g5 : (upd (upd H4 q5 (.lst [.bl (decide (15 = n)), .bl (decide (16 = n)), .bl (decide (17 = n))])) p5 (.lst (mks n 18))) p5 = some (.lst (mks n 18)) := upd_same
    show (fun H0 => _) (upd (upd H4 q5 (.lst [.bl (decide (15 = n)), .bl (decide (16 = n)), .bl (decide (17 = n))])) p5 (.lst (mks n 18)))
    generalize upd (upd H4 q5 (.lst [.bl (decide (15 = n)), .bl (decide (16 = n)), .bl (decide (17 = n))])) p5 (.lst (mks n 18)) = H5 at s5 g5
    have a5 := s5 _ _ h1
    have x5 := h2.same s5
    refine ⟨_, rfl, _, rfl, a, eC T n, dd, .ref (eC T 18), .ref (eC T 18), _, rfl, a5, x5, xc, .own _, kit_err T hn (show 18 < 19 by decide), (by show 1 ≤ sizeLine; decide), fun q6 hq6 _ => ?_⟩
    have t6 := same_new (o := .lst [.bl (decide (18 = n))]) hq6
    refine ⟨p5, q6, _, _, rfl, rfl, t6 _ _ g5, upd_same, (by show 19 ≤ sizeLine; decide), fun p6 hp6 => ?_⟩
    have s6 := (s5.trans t6).trans (same_new (o := .lst (mks n 19)) hp6)
    exact k p6 _ s6 upd_same

end
end Sn

/-! ## law_k01: what an error kept -/
namespace Sn
open PySem PySem.Spec PyProof.Rows L2
section
variable {P : Program} {w : World} {K : PySem.W.Frag} {mg : Str → Option Value} {base : Heap}
def spKept (T : Txt K mg) : Sp := fun vs H Q _ => ∃ (a : Addr) (n : Nat) (v : V), n < 19 ∧ vs = [.ref a, .int n] ∧ Kept T H a n v ∧ (n < 9 → ∀ H', Same H H' → Q v H') ∧
  (n = 9 → ∀ q p H', Same H H' → H' q = some (.lst [v, .ref p]) → q ≠ sysModules → H' p = some (.lst [v]) → p ≠ sysModules → Q (.ref q) H') ∧ (10 ≤ n → ∀ H', Same H H' → Q .non H')
theorem ok_kept (T : Txt K mg) : FnOk P w K mg base CX0 1 T.f_law_kept T.fd_law_kept ["_law_error", "_law_at"] (spKept T) := by
  refine T.F_law_kept.ok sc_law_kept (fun vs H Q E h => ?_) (fun cdv A outer s H vs Q E hr h => ?_)
  · obtain ⟨a, n, v, _, rfl, _⟩ := h
    rfl
  · obtain ⟨a, n, v, hn, rfl, kp, k, k9, k10⟩ := h
    refine ⟨_, (pss_cons (ps_if (pt_cmpR (op_in_seqK (K := K)) (pv 1) (pe_tup (pa_cons pe_int (pa_cons pe_int (pa_cons pe_int (pa_cons pe_int (pa_cons pe_int pa_nil)))))) (by rfl))
        (pss_one (ps_ret (pe_xk (pv 0))))
        pss_nil)
      (pss_cons (ps_if (pt_cmpR op_eq (pv 1) pe_int (nomark _))
        (pss_one (ps_ret (pe_xk (pv 0))))
        pss_nil)
      (pss_cons (ps_if (pt_cmpR op_eq (pv 1) pe_int (nomark _))
        (pss_one (ps_ret (pe_xk (pv 0))))
        pss_nil)
      (pss_cons (ps_if (pt_cmpR (op_in_seqK (K := K)) (pv 1) (pe_tup (pa_cons pe_int (pa_cons pe_int pa_nil))) (by rfl))
        (pss_one (ps_ret (pe_xk (pv 0))))
        pss_nil)
      (pss_one (ps_ret (pe_ifExp (pt_cmpR op_eq (pv 1) pe_int (nomark _)) (pe_lstB (pa_cons (pe_xk (pv 0)) (pa_cons (pe_xk (pv 0)) pa_nil))) pe_non))))))), ?_⟩
    match n, hn, kp, k, k9, k10 with
    | n + 19, h, _, _, _, _ => omega
    | 0, _, kp, k, k9, k10 =>
      obtain ⟨dd, h1, h2, h3, h4⟩ := kp
      obtain ⟨d, rfl, hd⟩ := h3 (by decide)
      refine ⟨_, rfl, (by show 5 ≤ sizeLine; decide), fun t ht => ?_⟩
      have s1 := same_new (o := .tup [.int 0, .int 2, .int 3, .int 4, .int 5]) ht
      refine ⟨t, _, rfl, .inr (.inl (.inl upd_same)), rfl, rfl, _, rfl, iteT ?_⟩
      exact ⟨_, rfl, a, _, d, _, _, rfl, s1 _ _ h1, s1 _ _ hd, rfl, T.xf_BadPath, T.no_BadPath_k, k (by decide) _ s1⟩
    | 1, _, kp, k, k9, k10 =>
      obtain ⟨dd, h1, h2, h3, h4⟩ := kp
      obtain ⟨d, rfl, hd⟩ := h3 (by decide)
      refine ⟨_, rfl, (by show 5 ≤ sizeLine; decide), fun t ht => ?_⟩
      have s1 := same_new (o := .tup [.int 0, .int 2, .int 3, .int 4, .int 5]) ht
      refine ⟨t, _, rfl, .inr (.inl (.inl upd_same)), rfl, rfl, _, rfl, iteF ?_⟩
      refine ⟨_, rfl, rfl, _, rfl, iteT ?_⟩
      exact ⟨_, rfl, a, _, d, _, _, rfl, s1 _ _ h1, s1 _ _ hd, rfl, T.xf_BadText, T.no_BadText_line, k (by decide) _ s1⟩
    | 2, _, kp, k, k9, k10 =>
      obtain ⟨dd, h1, h2, h3, h4⟩ := kp
      obtain ⟨d, rfl, hd⟩ := h3 (by decide)
      refine ⟨_, rfl, (by show 5 ≤ sizeLine; decide), fun t ht => ?_⟩
      have s1 := same_new (o := .tup [.int 0, .int 2, .int 3, .int 4, .int 5]) ht
      refine ⟨t, _, rfl, .inr (.inl (.inl upd_same)), rfl, rfl, _, rfl, iteT ?_⟩
      exact ⟨_, rfl, a, _, d, _, _, rfl, s1 _ _ h1, s1 _ _ hd, rfl, T.xf_BadKind, T.no_BadKind_k, k (by decide) _ s1⟩
    | 3, _, kp, k, k9, k10 =>
      obtain ⟨dd, h1, h2, h3, h4⟩ := kp
      obtain ⟨d, rfl, hd⟩ := h3 (by decide)
      refine ⟨_, rfl, (by show 5 ≤ sizeLine; decide), fun t ht => ?_⟩
      have s1 := same_new (o := .tup [.int 0, .int 2, .int 3, .int 4, .int 5]) ht
      refine ⟨t, _, rfl, .inr (.inl (.inl upd_same)), rfl, rfl, _, rfl, iteT ?_⟩
      exact ⟨_, rfl, a, _, d, _, _, rfl, s1 _ _ h1, s1 _ _ hd, rfl, T.xf_BadAnswer, T.no_BadAnswer_k, k (by decide) _ s1⟩
    | 4, _, kp, k, k9, k10 =>
      obtain ⟨dd, h1, h2, h3, h4⟩ := kp
      obtain ⟨d, rfl, hd⟩ := h3 (by decide)
      refine ⟨_, rfl, (by show 5 ≤ sizeLine; decide), fun t ht => ?_⟩
      have s1 := same_new (o := .tup [.int 0, .int 2, .int 3, .int 4, .int 5]) ht
      refine ⟨t, _, rfl, .inr (.inl (.inl upd_same)), rfl, rfl, _, rfl, iteT ?_⟩
      exact ⟨_, rfl, a, _, d, _, _, rfl, s1 _ _ h1, s1 _ _ hd, rfl, T.xf_BadFaded, T.no_BadFaded_k, k (by decide) _ s1⟩
    | 5, _, kp, k, k9, k10 =>
      obtain ⟨dd, h1, h2, h3, h4⟩ := kp
      obtain ⟨d, rfl, hd⟩ := h3 (by decide)
      refine ⟨_, rfl, (by show 5 ≤ sizeLine; decide), fun t ht => ?_⟩
      have s1 := same_new (o := .tup [.int 0, .int 2, .int 3, .int 4, .int 5]) ht
      refine ⟨t, _, rfl, .inr (.inl (.inl upd_same)), rfl, rfl, _, rfl, iteT ?_⟩
      exact ⟨_, rfl, a, _, d, _, _, rfl, s1 _ _ h1, s1 _ _ hd, rfl, T.xf_BadEdit, T.no_BadEdit_k, k (by decide) _ s1⟩
    | 6, _, kp, k, k9, k10 =>
      obtain ⟨dd, h1, h2, h3, h4⟩ := kp
      obtain ⟨d, rfl, hd⟩ := h3 (by decide)
      refine ⟨_, rfl, (by show 5 ≤ sizeLine; decide), fun t ht => ?_⟩
      have s1 := same_new (o := .tup [.int 0, .int 2, .int 3, .int 4, .int 5]) ht
      refine ⟨t, _, rfl, .inr (.inl (.inl upd_same)), rfl, rfl, _, rfl, iteF ?_⟩
      refine ⟨_, rfl, rfl, _, rfl, iteF ?_⟩
      refine ⟨_, rfl, rfl, _, rfl, iteT ?_⟩
      exact ⟨_, rfl, a, _, d, _, _, rfl, s1 _ _ h1, s1 _ _ hd, rfl, T.xf_NoModule, T.no_NoModule_name, k (by decide) _ s1⟩
    | 7, _, kp, k, k9, k10 =>
      obtain ⟨dd, h1, h2, h3, h4⟩ := kp
      obtain ⟨d, rfl, hd⟩ := h3 (by decide)
      refine ⟨_, rfl, (by show 5 ≤ sizeLine; decide), fun t ht => ?_⟩
      have s1 := same_new (o := .tup [.int 0, .int 2, .int 3, .int 4, .int 5]) ht
      refine ⟨t, _, rfl, .inr (.inl (.inl upd_same)), rfl, rfl, _, rfl, iteF ?_⟩
      refine ⟨_, rfl, rfl, _, rfl, iteF ?_⟩
      refine ⟨_, rfl, rfl, _, rfl, iteF ?_⟩
      refine ⟨_, rfl, (by show 2 ≤ sizeLine; decide), fun u hu => ?_⟩
      have s2 := s1.trans (same_new (o := .tup [.int 7, .int 8]) hu)
      refine ⟨u, _, rfl, .inr (.inl (.inl upd_same)), rfl, rfl, _, rfl, iteT ?_⟩
      exact ⟨_, rfl, a, _, d, _, _, rfl, s2 _ _ h1, s2 _ _ hd, rfl, T.xf_NoDefinition, T.no_NoDefinition_path, k (by decide) _ s2⟩
    | 8, _, kp, k, k9, k10 =>
      obtain ⟨dd, h1, h2, h3, h4⟩ := kp
      obtain ⟨d, rfl, hd⟩ := h3 (by decide)
      refine ⟨_, rfl, (by show 5 ≤ sizeLine; decide), fun t ht => ?_⟩
      have s1 := same_new (o := .tup [.int 0, .int 2, .int 3, .int 4, .int 5]) ht
      refine ⟨t, _, rfl, .inr (.inl (.inl upd_same)), rfl, rfl, _, rfl, iteF ?_⟩
      refine ⟨_, rfl, rfl, _, rfl, iteF ?_⟩
      refine ⟨_, rfl, rfl, _, rfl, iteF ?_⟩
      refine ⟨_, rfl, (by show 2 ≤ sizeLine; decide), fun u hu => ?_⟩
      have s2 := s1.trans (same_new (o := .tup [.int 7, .int 8]) hu)
      refine ⟨u, _, rfl, .inr (.inl (.inl upd_same)), rfl, rfl, _, rfl, iteT ?_⟩
      exact ⟨_, rfl, a, _, d, _, _, rfl, s2 _ _ h1, s2 _ _ hd, rfl, T.xf_Used, T.no_Used_path, k (by decide) _ s2⟩
    | 9, _, kp, k, k9, k10 =>
      obtain ⟨dd, h1, h2, h3, h4⟩ := kp
      refine ⟨_, rfl, (by show 5 ≤ sizeLine; decide), fun t ht => ?_⟩
      have s1 := same_new (o := .tup [.int 0, .int 2, .int 3, .int 4, .int 5]) ht
      refine ⟨t, _, rfl, .inr (.inl (.inl upd_same)), rfl, rfl, _, rfl, iteF ?_⟩
      refine ⟨_, rfl, rfl, _, rfl, iteF ?_⟩
      refine ⟨_, rfl, rfl, _, rfl, iteF ?_⟩
      refine ⟨_, rfl, (by show 2 ≤ sizeLine; decide), fun u hu => ?_⟩
      have s2 := s1.trans (same_new (o := .tup [.int 7, .int 8]) hu)
      refine ⟨u, _, rfl, .inr (.inl (.inl upd_same)), rfl, rfl, _, rfl, iteF ?_⟩
      obtain ⟨d, p, rfl, hd, hp, np⟩ := h4 rfl
      refine ⟨_, rfl, rfl, _, rfl, iteT ?_⟩
      refine ⟨_, rfl, a, _, d, _, _, rfl, s2 _ _ h1, s2 _ _ hd, rfl, T.xf_BadModule, T.no_BadModule_name, _, rfl, a, _, d, _, _, rfl, s2 _ _ h1, s2 _ _ hd, rfl, T.xf_BadModule, T.no_BadModule_line, (by show 2 ≤ sizeLine; decide), fun q hq nq => ?_⟩
      have s3 := same_new (o := .lst [v, .ref p]) hq
      exact k9 rfl q p _ (s2.trans s3) upd_same nq (s3 _ _ (s2 _ _ hp)) np
    | 10, _, kp, k, k9, k10 =>
      obtain ⟨dd, h1, h2, h3, h4⟩ := kp
      refine ⟨_, rfl, (by show 5 ≤ sizeLine; decide), fun t ht => ?_⟩
      have s1 := same_new (o := .tup [.int 0, .int 2, .int 3, .int 4, .int 5]) ht
      refine ⟨t, _, rfl, .inr (.inl (.inl upd_same)), rfl, rfl, _, rfl, iteF ?_⟩
      refine ⟨_, rfl, rfl, _, rfl, iteF ?_⟩
      refine ⟨_, rfl, rfl, _, rfl, iteF ?_⟩
      refine ⟨_, rfl, (by show 2 ≤ sizeLine; decide), fun u hu => ?_⟩
      have s2 := s1.trans (same_new (o := .tup [.int 7, .int 8]) hu)
      refine ⟨u, _, rfl, .inr (.inl (.inl upd_same)), rfl, rfl, _, rfl, iteF ?_⟩
      refine ⟨_, rfl, rfl, _, rfl, iteF ?_⟩
      exact k10 (by decide) _ s2
    | 11, _, kp, k, k9, k10 =>
      obtain ⟨dd, h1, h2, h3, h4⟩ := kp
      refine ⟨_, rfl, (by show 5 ≤ sizeLine; decide), fun t ht => ?_⟩
      have s1 := same_new (o := .tup [.int 0, .int 2, .int 3, .int 4, .int 5]) ht
      refine ⟨t, _, rfl, .inr (.inl (.inl upd_same)), rfl, rfl, _, rfl, iteF ?_⟩
      refine ⟨_, rfl, rfl, _, rfl, iteF ?_⟩
      refine ⟨_, rfl, rfl, _, rfl, iteF ?_⟩
      refine ⟨_, rfl, (by show 2 ≤ sizeLine; decide), fun u hu => ?_⟩
      have s2 := s1.trans (same_new (o := .tup [.int 7, .int 8]) hu)
      refine ⟨u, _, rfl, .inr (.inl (.inl upd_same)), rfl, rfl, _, rfl, iteF ?_⟩
      refine ⟨_, rfl, rfl, _, rfl, iteF ?_⟩
      exact k10 (by decide) _ s2
    | 12, _, kp, k, k9, k10 =>
      obtain ⟨dd, h1, h2, h3, h4⟩ := kp
      refine ⟨_, rfl, (by show 5 ≤ sizeLine; decide), fun t ht => ?_⟩
      have s1 := same_new (o := .tup [.int 0, .int 2, .int 3, .int 4, .int 5]) ht
      refine ⟨t, _, rfl, .inr (.inl (.inl upd_same)), rfl, rfl, _, rfl, iteF ?_⟩
      refine ⟨_, rfl, rfl, _, rfl, iteF ?_⟩
      refine ⟨_, rfl, rfl, _, rfl, iteF ?_⟩
      refine ⟨_, rfl, (by show 2 ≤ sizeLine; decide), fun u hu => ?_⟩
      have s2 := s1.trans (same_new (o := .tup [.int 7, .int 8]) hu)
      refine ⟨u, _, rfl, .inr (.inl (.inl upd_same)), rfl, rfl, _, rfl, iteF ?_⟩
      refine ⟨_, rfl, rfl, _, rfl, iteF ?_⟩
      exact k10 (by decide) _ s2
    | 13, _, kp, k, k9, k10 =>
      obtain ⟨dd, h1, h2, h3, h4⟩ := kp
      refine ⟨_, rfl, (by show 5 ≤ sizeLine; decide), fun t ht => ?_⟩
      have s1 := same_new (o := .tup [.int 0, .int 2, .int 3, .int 4, .int 5]) ht
      refine ⟨t, _, rfl, .inr (.inl (.inl upd_same)), rfl, rfl, _, rfl, iteF ?_⟩
      refine ⟨_, rfl, rfl, _, rfl, iteF ?_⟩
      refine ⟨_, rfl, rfl, _, rfl, iteF ?_⟩
      refine ⟨_, rfl, (by show 2 ≤ sizeLine; decide), fun u hu => ?_⟩
      have s2 := s1.trans (same_new (o := .tup [.int 7, .int 8]) hu)
      refine ⟨u, _, rfl, .inr (.inl (.inl upd_same)), rfl, rfl, _, rfl, iteF ?_⟩
      refine ⟨_, rfl, rfl, _, rfl, iteF ?_⟩
      exact k10 (by decide) _ s2
    | 14, _, kp, k, k9, k10 =>
      obtain ⟨dd, h1, h2, h3, h4⟩ := kp
      refine ⟨_, rfl, (by show 5 ≤ sizeLine; decide), fun t ht => ?_⟩
      have s1 := same_new (o := .tup [.int 0, .int 2, .int 3, .int 4, .int 5]) ht
      refine ⟨t, _, rfl, .inr (.inl (.inl upd_same)), rfl, rfl, _, rfl, iteF ?_⟩
      refine ⟨_, rfl, rfl, _, rfl, iteF ?_⟩
      refine ⟨_, rfl, rfl, _, rfl, iteF ?_⟩
      refine ⟨_, rfl, (by show 2 ≤ sizeLine; decide), fun u hu => ?_⟩
      have s2 := s1.trans (same_new (o := .tup [.int 7, .int 8]) hu)
      refine ⟨u, _, rfl, .inr (.inl (.inl upd_same)), rfl, rfl, _, rfl, iteF ?_⟩
      refine ⟨_, rfl, rfl, _, rfl, iteF ?_⟩
      exact k10 (by decide) _ s2
    | 15, _, kp, k, k9, k10 =>
      obtain ⟨dd, h1, h2, h3, h4⟩ := kp
      refine ⟨_, rfl, (by show 5 ≤ sizeLine; decide), fun t ht => ?_⟩
      have s1 := same_new (o := .tup [.int 0, .int 2, .int 3, .int 4, .int 5]) ht
      refine ⟨t, _, rfl, .inr (.inl (.inl upd_same)), rfl, rfl, _, rfl, iteF ?_⟩
      refine ⟨_, rfl, rfl, _, rfl, iteF ?_⟩
      refine ⟨_, rfl, rfl, _, rfl, iteF ?_⟩
      refine ⟨_, rfl, (by show 2 ≤ sizeLine; decide), fun u hu => ?_⟩
      have s2 := s1.trans (same_new (o := .tup [.int 7, .int 8]) hu)
      refine ⟨u, _, rfl, .inr (.inl (.inl upd_same)), rfl, rfl, _, rfl, iteF ?_⟩
      refine ⟨_, rfl, rfl, _, rfl, iteF ?_⟩
      exact k10 (by decide) _ s2
    | 16, _, kp, k, k9, k10 =>
      obtain ⟨dd, h1, h2, h3, h4⟩ := kp
      refine ⟨_, rfl, (by show 5 ≤ sizeLine; decide), fun t ht => ?_⟩
      have s1 := same_new (o := .tup [.int 0, .int 2, .int 3, .int 4, .int 5]) ht
      refine ⟨t, _, rfl, .inr (.inl (.inl upd_same)), rfl, rfl, _, rfl, iteF ?_⟩
      refine ⟨_, rfl, rfl, _, rfl, iteF ?_⟩
      refine ⟨_, rfl, rfl, _, rfl, iteF ?_⟩
      refine ⟨_, rfl, (by show 2 ≤ sizeLine; decide), fun u hu => ?_⟩
      have s2 := s1.trans (same_new (o := .tup [.int 7, .int 8]) hu)
      refine ⟨u, _, rfl, .inr (.inl (.inl upd_same)), rfl, rfl, _, rfl, iteF ?_⟩
      refine ⟨_, rfl, rfl, _, rfl, iteF ?_⟩
      exact k10 (by decide) _ s2
    | 17, _, kp, k, k9, k10 =>
      obtain ⟨dd, h1, h2, h3, h4⟩ := kp
      refine ⟨_, rfl, (by show 5 ≤ sizeLine; decide), fun t ht => ?_⟩
      have s1 := same_new (o := .tup [.int 0, .int 2, .int 3, .int 4, .int 5]) ht
      refine ⟨t, _, rfl, .inr (.inl (.inl upd_same)), rfl, rfl, _, rfl, iteF ?_⟩
      refine ⟨_, rfl, rfl, _, rfl, iteF ?_⟩
      refine ⟨_, rfl, rfl, _, rfl, iteF ?_⟩
      refine ⟨_, rfl, (by show 2 ≤ sizeLine; decide), fun u hu => ?_⟩
      have s2 := s1.trans (same_new (o := .tup [.int 7, .int 8]) hu)
      refine ⟨u, _, rfl, .inr (.inl (.inl upd_same)), rfl, rfl, _, rfl, iteF ?_⟩
      refine ⟨_, rfl, rfl, _, rfl, iteF ?_⟩
      exact k10 (by decide) _ s2
    | 18, _, kp, k, k9, k10 =>
      obtain ⟨dd, h1, h2, h3, h4⟩ := kp
      refine ⟨_, rfl, (by show 5 ≤ sizeLine; decide), fun t ht => ?_⟩
      have s1 := same_new (o := .tup [.int 0, .int 2, .int 3, .int 4, .int 5]) ht
      refine ⟨t, _, rfl, .inr (.inl (.inl upd_same)), rfl, rfl, _, rfl, iteF ?_⟩
      refine ⟨_, rfl, rfl, _, rfl, iteF ?_⟩
      refine ⟨_, rfl, rfl, _, rfl, iteF ?_⟩
      refine ⟨_, rfl, (by show 2 ≤ sizeLine; decide), fun u hu => ?_⟩
      have s2 := s1.trans (same_new (o := .tup [.int 7, .int 8]) hu)
      refine ⟨u, _, rfl, .inr (.inl (.inl upd_same)), rfl, rfl, _, rfl, iteF ?_⟩
      refine ⟨_, rfl, rfl, _, rfl, iteF ?_⟩
      exact k10 (by decide) _ s2
end
end Sn

/-! ## law_k01: the law -/
namespace Sn
open PySem PySem.Spec PyProof.Rows L2
/-- data that may be written: alone, and in a list with a list of it -/
structure Wd (d : PyData) : Prop where
  s : d.showable = true
  p : d.depth ≤ 60
  l : d.shown.length ≤ 1000
  s2 : (PyData.list [d, .list [d]]).showable = true
  p2 : (PyData.list [d, .list [d]]).depth ≤ 64
  l2 : (PyData.list [d, .list [d]]).shown.length ≤ 1000
theorem wd_ints : ∀ j ∈ List.range 99, (PyData.int (j : Nat)).showable = true ∧ (PyData.int (j : Nat)).depth ≤ 60 ∧ (PyData.int (j : Nat)).shown.length ≤ 1000 ∧ (PyData.list [.int (j : Nat), .list [.int (j : Nat)]]).showable = true ∧
    (PyData.list [.int (j : Nat), .list [.int (j : Nat)]]).depth ≤ 64 ∧ (PyData.list [.int (j : Nat), .list [.int (j : Nat)]]).shown.length ≤ 1000 ∧ ((j : Nat) : Int).natAbs.log2 < 1920 := by decide +kernel
theorem wd_non : Wd .none := ⟨by decide +kernel, by decide +kernel, by decide +kernel, by decide +kernel, by decide +kernel, by decide +kernel⟩
theorem wd_true : Wd (.bool true) := ⟨by decide +kernel, by decide +kernel, by decide +kernel, by decide +kernel, by decide +kernel, by decide +kernel⟩
theorem wd_0 : Wd (.int 0) := ⟨by decide +kernel, by decide +kernel, by decide +kernel, by decide +kernel, by decide +kernel, by decide +kernel⟩
theorem wd_m : Wd (.int (-1)) := ⟨by decide +kernel, by decide +kernel, by decide +kernel, by decide +kernel, by decide +kernel, by decide +kernel⟩
theorem wd_ab : Wd (.str "a.b") := ⟨by decide +kernel, by decide +kernel, by decide +kernel, by decide +kernel, by decide +kernel, by decide +kernel⟩
theorem wd_e : Wd (.str "") := ⟨by decide +kernel, by decide +kernel, by decide +kernel, by decide +kernel, by decide +kernel, by decide +kernel⟩
theorem wd_tup : Wd (.tuple [.str "a", .int 1]) := ⟨by decide +kernel, by decide +kernel, by decide +kernel, by decide +kernel, by decide +kernel, by decide +kernel⟩
theorem wd_lst : Wd (.list [.str "a"]) := ⟨by decide +kernel, by decide +kernel, by decide +kernel, by decide +kernel, by decide +kernel, by decide +kernel⟩
theorem wd_dk : Wd (.dict [(.str "a", .int 1)]) := ⟨by decide +kernel, by decide +kernel, by decide +kernel, by decide +kernel, by decide +kernel, by decide +kernel⟩
theorem len_le {z : Str} (h : z.length ≤ 1000) : z.length ≤ sizeLine := Nat.le_of_lt (small1000 h)
section
variable {P : Program} {w : World} {K : PySem.W.Frag} {mg : Str → Option Value} {base : Heap}
/-- a drawn value that stays -/
def Val (d g : Addr) (H : Hp) (v : V) : Prop := ∃ dv, Wd dv ∧ (∀ i, v = .int i → i.natAbs.log2 < 1920) ∧ ∀ H', Mv d g H H' → Dq H' v dv
theorem mks_dp {H : Hp} (n k : Nat) : DpAll K H (mks n k) ((List.range k).map fun j => PyData.bool (decide (j = n))) := by
  unfold mks
  generalize List.range k = l
  induction l with
  | nil => exact .nil
  | cons x r ih => exact .cons (.bl _) ih
theorem bools_ok : ∀ l : List Nat, ∀ n : Nat, PyData.canLayAll0 (l.map fun j => PyData.bool (decide (j = n))) = true ∧ PyData.depthAll (l.map fun j => PyData.bool (decide (j = n))) = 0
  | [], _ => ⟨rfl, rfl⟩
  | x :: l, n => by
    obtain ⟨h1, h2⟩ := bools_ok l n
    simp [PyData.canLayAll0, PyData.canLay0, PyData.depthAll, PyData.depth, h1, h2]
theorem mks_shaped (n k : Nat) : SeqAt.shaped (.list ((List.range k).map fun j => PyData.bool (decide (j = n)))) = true := by
  obtain ⟨h1, h2⟩ := bools_ok (List.range k) n
  simp [SeqAt.shaped, PyData.canLay0, PyData.depth, h1, h2]
theorem bools_eqv (n : Nat) : ∀ l : List Nat, PyData.eqvAll (l.map fun j => PyData.bool (decide (j = n))) (l.map fun j => PyData.bool (decide (j = n))) = true
  | [] => rfl
  | x :: l => by
    show (PyData.eqv (.bool (decide (x = n))) (.bool (decide (x = n))) && _) = true
    rw [bools_eqv n l]
    cases decide (x = n) <;> rfl
theorem mks_eqv (n k : Nat) : PyData.eqv (.list ((List.range k).map fun j => PyData.bool (decide (j = n)))) (.list ((List.range k).map fun j => PyData.bool (decide (j = n)))) = true := bools_eqv n _
/-- the law: a list of at most 63 ints is handed in, True comes out -/
def spLaw (K : PySem.W.Frag) : Sp := fun vs H Q _ => ∃ (a : Addr) (ns : List Int), vs = [.ref a] ∧ SqL K H a (ns.map V.int) ∧ ns.length ≤ 63 ∧ ∀ H', Q (.bl true) H'
theorem ok_law (T : Txt K mg) (hP : PrOk P) : FnG P w K mg base CX0 6 T.f_law T.fd_law ["_law_script"] (spLaw K) := by
  refine okG T.F_law sc_law (fun vs H Q E h => ?_) (fun cdv A outer s H vs Q E hgu hr h => ?_)
  · obtain ⟨a, ns, rfl, _⟩ := h
    rfl
  · obtain ⟨a, ns, rfl, hS, hl, k⟩ := h
    refine ⟨_, (pss_cons (ps_set (i := 1) sc_law.nd rfl (Or.inl rfl) (pe_call (ok_begun T) (hr.mono (by decide)) rfl T.g_law_begun T.F_law_begun.kp T.b_law_begun .nil pass0 (pa_cons (pv 0) pa_nil)))
      (pss_cons (ps_for PassesOwn.never rfl (pi_range1 (by rfl) T.z_range (pa_cons (pe_op op_add pe_int (pe_callB (call_min2 rfl) (by rfl) T.z_min (by decide +kernel) (pa_cons (pe_callB call_len (by rfl) T.z_len (by decide +kernel) (pa_cons (pv 0) pa_nil)) (pa_cons pe_int pa_nil)))) pa_nil)) (pg_name (i := 2) sc_law.nd rfl (Or.inl rfl))
        (pss_cons (ps_set (i := 3) sc_law.nd rfl (Or.inl rfl) (pe_lstB (pa_cons pe_non (pa_cons pe_bl (pa_cons pe_int (pa_cons (pe_un un_neg pe_int) (pa_cons (pe_call (ok_take T) (hr.mono (by decide)) rfl T.g_law_take T.F_law_take.kp T.b_law_take .nil pass0 (pa_cons (pv 1) (pa_cons pe_int pa_nil))) (pa_cons pe_str (pa_cons pe_str (pa_cons (pe_tup (pa_cons pe_str (pa_cons pe_int pa_nil))) (pa_cons (pe_lstB (pa_cons pe_str pa_nil)) (pa_cons (pe_disp (pps_cons pe_str pe_int pps_nil) (by rfl) (by rfl) (fun z => by cases z) (by decide)) pa_nil))))))))))))
      (pss_cons (ps_par (i := 4) (j := 5) (by rfl) sc_law.nd rfl rfl (by decide) rfl rfl (pa_cons (pe_call (ok_pick T) (hr.mono (by decide)) rfl T.g_law_pick T.F_law_pick.kp T.b_law_pick .nil pass0 (pa_cons (pv 1) (pa_cons (pv 3) pa_nil))) (pa_cons (pe_cmpR op_eq (pe_call (ok_take T) (hr.mono (by decide)) rfl T.g_law_take T.F_law_take.kp T.b_law_take .nil pass0 (pa_cons (pv 1) (pa_cons pe_int pa_nil))) pe_int (nomark _)) pa_nil)) (by rfl))
      (pss_one (ps_for PassesOwn.never rfl (pi_range1 (by rfl) T.z_range (pa_cons pe_int pa_nil)) (pg_name (i := 6) sc_law.nd rfl (Or.inr rfl))
        (pss_cons (ps_set (i := 7) sc_law.nd rfl (Or.inl rfl) (pe_call (ok_raised T hP) (hr.mono (by decide)) rfl T.g_law_raised T.F_law_raised.kp T.b_law_raised .nil pass0 (pa_cons (pv 6) (pa_cons (pv 4) (pa_cons (pv 5) pa_nil)))))
      (pss_cons (ps_if (PW.pt (pw_or (pt_cmpR op_isN (pv 7) pe_non (nomark _)) (pw_or1 (pt_not (pt_val (pe_callB call_isX (by rfl) T.z_isinstance (by decide +kernel) (pa_cons (pv 7) (pa_cons (pe_bltn (v := .ty "ValueError") (by rfl) T.z_ValueError (by decide +kernel) rfl) pa_nil))))))))
        (pss_one (ps_ret pe_bl))
        pss_nil)
      (pss_cons (ps_if (pt_cmpR (op_neDK (K := K) hr.units) (pe_call (ok_marks T) (hr.mono (by decide)) rfl T.g_law_marks T.F_law_marks.kp T.b_law_marks .nil pass0 (pa_cons (pv 7) pa_nil)) (pe_lc (own := [("_law_spot", 9)]) (g := gName 9) (by rfl) sc_law.nd (pi_range1 (by rfl) T.z_range (pa_cons pe_int pa_nil)) (blkOk_by (own := [("_law_spot", 9)]) (N := n_law) (sc := defScope s_law) (by decide +kernel)) (fun _ _ _ _ _ => (pg_name (i := 9) sc_law.nd rfl (Or.inl rfl))) (fun _ _ _ _ _ => pts_nil) (fun _ _ _ _ _ => (pe_cmpR op_eq (pv 9) (pv 6) (nomark _)))) (nomark _))
        (pss_one (ps_ret pe_bl))
        pss_nil)
      (pss_cons (ps_set (i := 8) sc_law.nd rfl (Or.inl rfl) (pe_ifExp (pt_cmpR op_eq (pv 6) pe_int (nomark _)) (pe_lstB (pa_cons (pv 4) (pa_cons (pe_lstB (pa_cons (pv 4) pa_nil)) pa_nil))) (pe_ifExp (pt_cmpR op_lt (pv 6) pe_int (nomark _)) (pv 4) pe_non)))
      (pss_one (ps_if (pt_cmpR op_ne (pe_callB (call_reprQ hgu (hu70 hr)) (by rfl) T.z_repr (by decide +kernel) (pa_cons (pe_call (ok_kept T) (hr.mono (by decide)) rfl T.g_law_kept T.F_law_kept.kp T.b_law_kept .nil pass0 (pa_cons (pv 7) (pa_cons (pv 6) pa_nil))) pa_nil)) (pe_callB (call_reprQ hgu (hu70 hr)) (by rfl) T.z_repr (by decide +kernel) (pa_cons (pv 8) pa_nil)) (nomark _))
        (pss_one (ps_ret pe_bl))
        pss_nil)))))))))))
      (pss_one (ps_ret pe_bl)))), ?_⟩
    refine ⟨_, rfl, a, ns, rfl, hS, by omega, fun d g c H1 nd ng nc D1 s1 => ?_⟩
    refine ⟨_, rfl, _, ns.length, rfl, .inl ⟨_, s1.seq hS, by rw [List.length_map]⟩, _, _, rfl, ?_⟩
    generalize en : (if (6 : Int) < (ns.length : Int) then (6 : Int) else (ns.length : Int)) = mn
    have hmn : 0 ≤ mn ∧ mn ≤ 6 := by rw [← en]; split <;> omega
    refine ⟨_, _, rfl, rfl, _, rfl, by omega, by omega, ?_⟩
    refine for_range (lo := 0) (n := (2 + mn).toNat) (fun i σ H2 => ∃ (v2 v3 v4 v5 v6 v7 v8 v9 : Option V), σ = [some (.ref a), some (.ref d), v2, v3, v4, v5, v6, v7, v8, v9] ∧ Dr H2 d g c (3 * i))
      ⟨none, none, none, none, none, none, none, none, rfl, D1⟩ ?_ ?_
    · rintro i σ H2 hi ⟨v2, v3, v4, v5, v6, v7, v8, v9, rfl, D2⟩
      refine ⟨_, rfl, _, rfl, d, g, c, _, _, rfl, D2, by omega, by decide, by decide, fun r H3 r0 r1 D3 mv3 => ?_⟩
      obtain ⟨r, rfl⟩ := Int.eq_ofNat_of_zero_le r0
      refine ⟨(by show 2 ≤ sizeLine; decide), fun t ht => ⟨(by show 1 ≤ sizeLine; decide), fun l hl nl => fun e he => ⟨upd_same, [(Sum.inr "a", .int 1)], rfl, by decide, ?_⟩⟩⟩
      have st := same_new (o := .tup [.str "a", .int 1]) ht
      have sl := same_new (o := .lst [.str "a"]) hl
      rw [upd_upd]
      have se := same_new (o := .dK (mergeK [] [(Sum.inr "a", .int 1)])) he
      have nt := dr_new D3 ht
      have nl' := dr_new (D3.same st) hl
      have ne' := dr_new ((D3.same st).same sl) he
      have t4 := (sl.trans se) _ _ (upd_same (H := H3) (a := t) (o := .tup [.str "a", .int 1]))
      have l4 := se _ _ (upd_same (H := upd H3 t (.tup [.str "a", .int 1])) (a := l) (o := .lst [.str "a"]))
      have e4 : (upd (upd (upd H3 t (.tup [.str "a", .int 1])) l (.lst [.str "a"])) e (.dK (mergeK [] [(Sum.inr "a", .int 1)]))) e = some (.dK [(Sum.inr "a", .int 1)]) := upd_same
      have D4 := D3.same ((st.trans sl).trans se)
      generalize upd (upd (upd H3 t (.tup [.str "a", .int 1])) l (.lst [.str "a"])) e (.dK (mergeK [] [(Sum.inr "a", .int 1)])) = H4 at t4 l4 e4 D4
      refine ⟨(by show 10 ≤ sizeLine; decide), fun S hS nS => ?_⟩
      generalize esm : ([.non, .bl true, .int 0, .int (-1), .int (r : Nat), .str "a.b", .str "", .ref t, .ref l, .ref e] : List V) = sm
      have sS := same_new (o := .lst sm) hS
      have nS' := dr_new D4 hS
      have vals : ∀ v ∈ sm, Val d g (upd H4 S (.lst sm)) v := by
        intro v hv
        rw [← esm] at hv
        simp only [List.mem_cons, List.not_mem_nil, or_false] at hv
        rcases hv with rfl | rfl | rfl | rfl | rfl | rfl | rfl | rfl | rfl | rfl
        · exact ⟨_, wd_non, (fun i e => by cases e), fun H' _ => .non⟩
        · exact ⟨_, wd_true, (fun i e => by cases e), fun H' _ => .bl true⟩
        · exact ⟨_, wd_0, fun i e => by cases e; decide, fun H' _ => .int 0⟩
        · exact ⟨_, wd_m, fun i e => by cases e; decide, fun H' _ => .int (-1)⟩
        · obtain ⟨q1, q2, q3, q4, q5, q6, q7⟩ := wd_ints r (List.mem_range.mpr (by omega))
          exact ⟨_, ⟨q1, q2, q3, q4, q5, q6⟩, fun i e => by cases e; exact q7, fun H' _ => .int _⟩
        · exact ⟨_, wd_ab, (fun i e => by cases e), fun H' _ => .str _⟩
        · exact ⟨_, wd_e, (fun i e => by cases e), fun H' _ => .str _⟩
        · exact ⟨_, wd_tup, (fun i e => by cases e), fun H' m => .tup (m _ _ nt.1 nt.2.1 (sS _ _ t4)) (.cons (.str _) (.cons (.int 1) .nil))⟩
        · exact ⟨_, wd_lst, (fun i e => by cases e), fun H' m => .lst (m _ _ nl'.1 nl'.2.1 (sS _ _ l4)) nl (.cons (.str _) .nil)⟩
        · exact ⟨_, wd_dk, (fun i e => by cases e), fun H' m => .dk (m _ _ ne'.1 ne'.2.1 (sS _ _ e4))⟩
      have lsm : sm.length = 10 := by rw [← esm]; rfl
      have D5 := D4.same sS
      have S5 : (upd H4 S (.lst sm)) S = some (.lst sm) := upd_same
      generalize upd H4 S (.lst sm) = H5 at vals D5 S5
      refine ⟨_, rfl, _, rfl, d, g, c, _, D5, by omega, .inr ⟨S, _, rfl, S5, nS'.2.1, by omega, by omega, fun v H6 hv D6 mv6 => ?_⟩⟩
      obtain ⟨dv, wd, hvi, hdv⟩ := vals v hv
      refine ⟨_, rfl, d, g, c, _, _, rfl, D6, by omega, by decide, by decide, fun b H7 b0 b1 D7 mv7 => ?_⟩
      refine ⟨rfl, _, _, rfl, ?_⟩
      generalize decide (V.int b = V.int 0) = bb
      have q7 : Dq H7 v dv := hdv H7 (mv6.trans mv7)
      refine ⟨_, rfl, by decide, by decide, ?_⟩
      refine for_range (lo := 0) (n := 19) (fun n σ H8 => ∃ (v6 v7 v8 v9 : Option V), σ = [some (.ref a), some (.ref d), some (.int (0 + (i : Int))), some (.ref S), some v, some (.bl bb), v6, v7, v8, v9] ∧ Same H7 H8)
        ⟨_, _, _, _, rfl, Same.refl _⟩ ?_ ?_
      · rintro n σ H8 hn ⟨v6, v7, v8, v9, rfl, s8⟩
        rw [Int.zero_add (n : Int)]
        refine ⟨_, rfl, _, rfl, _, rfl, n, v, bb, hn, rfl, fun e H9 s9 kp => ?_⟩
        obtain ⟨dd, h1, h2, _⟩ := id kp
        have xc := (ec_all T _ (eC_mem T hn)).x
        refine ⟨_, rfl, rfl, _, rfl, iteF ?_⟩
        refine ⟨_, rfl, e, eC T n, dd, .ty "ValueError", .type "ValueError", true, rfl, h1, h2, xc, .ty _, kit_ve T hn, true, rfl, iteF ?_⟩
        refine ⟨_, rfl, e, n, v, hn, rfl, kp, fun p H10 s10 hp => ?_⟩
        refine ⟨_, rfl, by decide, by decide, fun B hB => ?_⟩
        refine lc_range (lo := 0) (n := 19) (fun j H' => H' = upd H10 B (.lst (mks n j))) rfl ?_ ?_
        · rintro j H' hj rfl
          refine ⟨rfl, ?_⟩
          refine ⟨_, rfl, _, rfl, rfl, _, upd_same, small1000 (by unfold mks; rw [List.length_map, List.length_range]; omega), ?_⟩
          have ej : decide (V.int (0 + (j : Int)) = V.int (n : Int)) = decide (j = n) := by
            rw [Int.zero_add]
            by_cases e : j = n
            · subst e; simp
            · rw [decide_eq_false e, decide_eq_false (fun q => e (by injection q with q; omega))]
          rw [upd_upd, ej]
          congr 2
          unfold mks
          rw [List.range_succ, List.map_append]; rfl
        rintro H' rfl
        have sB := same_new (o := .lst (mks n 19)) hB
        refine ⟨_, _, .lst (.inl (.inl (sB _ _ hp))) (mks_dp n 19), .lst (.inl (.inl upd_same)) (mks_dp n 19), mks_shaped n 19, mks_shaped n 19, _, rfl, ?_⟩
        rw [mks_eqv]
        refine iteF ?_
        have S11 := ((s8.trans s9).trans s10).trans sB
        have kp11 := kp.same (s10.trans sB)
        have q11 := q7.same S11
        generalize upd H10 B (.lst (mks n 19)) = H11 at S11 kp11 q11
        have ld : dv.shown.length ≤ sizeLine := len_le wd.l
        have ld2 : (PyData.list [dv, .list [dv]]).shown.length ≤ sizeLine := len_le wd.l2
        have pd : dv.depth ≤ 64 := Nat.le_trans wd.p (by decide)
        refine ⟨_, rfl, rfl, _, rfl, ?_⟩
        by_cases h9 : n = 9
        · subst h9
          refine iteT ?_
          refine ⟨_, rfl, _, rfl, (by show 1 ≤ sizeLine; decide), fun p1 hp1 np1 => ⟨(by show 2 ≤ sizeLine; decide), fun p2 hp2 np2 => ?_⟩⟩
          have sp1 := same_new (o := .lst [v]) hp1
          have sp2 := same_new (o := .lst [v, .ref p1]) hp2
          refine ⟨_, rfl, _, rfl, e, 9, v, by decide, rfl, kp11.same (sp1.trans sp2), fun h => absurd h (by decide), fun _ q p H' s' hq nq hp np => ?_, fun h => absurd h (by decide)⟩
          have S13 := (sp1.trans sp2).trans s'
          refine ⟨.ref q, .list [dv, .list [dv]], rfl, .lst hq nq (.cons (q11.same S13) (.cons (.lst hp np (.cons (q11.same S13) .nil)) .nil)), wd.s2, wd.p2, ld2, (fun i e => by cases e), ?_⟩
          refine ⟨_, rfl, .ref p2, .list [dv, .list [dv]], rfl, .lst (s' _ _ upd_same) np2 (.cons (q11.same S13) (.cons (.lst ((sp2.trans s') _ _ upd_same) np1 (.cons (q11.same S13) .nil)) .nil)), wd.s2, wd.p2, ld2, (fun i e => by cases e), ?_⟩
          exact ⟨rfl, _, rfl, iteNS rfl ⟨_, _, _, _, rfl, S11.trans S13⟩⟩
        · rw [decide_eq_false (show ¬ V.int (n : Int) = V.int 9 from fun q => h9 (by injection q with q; omega))]
          refine iteF ?_
          refine ⟨_, rfl, _, _, rfl, rfl, _, rfl, ?_⟩
          by_cases h10 : n < 9
          · rw [decide_eq_true (show ((n : Nat) : Int) < 10 by omega)]
            refine iteT ?_
            refine ⟨_, rfl, _, rfl, _, rfl, e, n, v, hn, rfl, kp11, fun _ H' s' => ?_, fun h => absurd h h9, fun h => absurd h10 (by omega)⟩
            refine ⟨v, dv, rfl, q11.same s', wd.s, pd, ld, hvi, ?_⟩
            refine ⟨_, rfl, v, dv, rfl, q11.same s', wd.s, pd, ld, hvi, ?_⟩
            exact ⟨rfl, _, rfl, iteNS rfl ⟨_, _, _, _, rfl, S11.trans s'⟩⟩
          · rw [decide_eq_false (show ¬ ((n : Nat) : Int) < 10 by omega)]
            refine iteF ?_
            refine ⟨_, rfl, _, rfl, e, n, v, hn, rfl, kp11, fun h => absurd h h10, fun h => absurd h h9, fun _ H' s' => ?_⟩
            refine ⟨.non, .none, rfl, .non, wd_non.s, by decide, len_le wd_non.l, (fun i e => by cases e), ?_⟩
            refine ⟨_, rfl, .non, .none, rfl, .non, wd_non.s, by decide, len_le wd_non.l, (fun i e => by cases e), ?_⟩
            exact ⟨rfl, _, rfl, iteNS rfl ⟨_, _, _, _, rfl, S11.trans s'⟩⟩
      · rintro σ H8 ⟨v6, v7, v8, v9, rfl, s8⟩
        exact ⟨_, _, _, _, _, _, _, _, rfl, (D7.same s8).mono (by omega)⟩
    · rintro σ H2 ⟨v2, v3, v4, v5, v6, v7, v8, v9, rfl, D2⟩
      exact k H2
end
end Sn

namespace Sn
open PySem PySem.Spec PyProof.Rows L2
theorem all_mk {l : PySem.W.OpenLaw} {w : World} {K : PySem.W.Frag} {h : Heap} {mg : Str → Option Value} {fa : Addr}
    {f_law_begun : Addr} {od_law_begun an_law_begun : Option Addr} {sl_law_begun : Array (Option Value)} {oc_law_begun kV_law_begun dc_law_begun pm_law_begun cd_law_begun ct_law_begun : Value}
    {f_law_mixed : Addr} {od_law_mixed an_law_mixed : Option Addr} {sl_law_mixed : Array (Option Value)} {oc_law_mixed kV_law_mixed dc_law_mixed pm_law_mixed cd_law_mixed ct_law_mixed : Value}
    {f_law_take : Addr} {od_law_take an_law_take : Option Addr} {sl_law_take : Array (Option Value)} {oc_law_take kV_law_take dc_law_take pm_law_take cd_law_take ct_law_take : Value}
    {f_law_pick : Addr} {od_law_pick an_law_pick : Option Addr} {sl_law_pick : Array (Option Value)} {oc_law_pick kV_law_pick dc_law_pick pm_law_pick cd_law_pick ct_law_pick : Value}
    {f_law_with_number : Addr} {od_law_with_number an_law_with_number : Option Addr} {sl_law_with_number : Array (Option Value)} {oc_law_with_number kV_law_with_number dc_law_with_number pm_law_with_number cd_law_with_number ct_law_with_number : Value}
    {f_law_with_thing : Addr} {od_law_with_thing an_law_with_thing : Option Addr} {sl_law_with_thing : Array (Option Value)} {oc_law_with_thing kV_law_with_thing dc_law_with_thing pm_law_with_thing cd_law_with_thing ct_law_with_thing : Value}
    {f_law_with_message : Addr} {od_law_with_message an_law_with_message : Option Addr} {sl_law_with_message : Array (Option Value)} {oc_law_with_message kV_law_with_message dc_law_with_message pm_law_with_message cd_law_with_message ct_law_with_message : Value}
    {f_law_raised : Addr} {od_law_raised an_law_raised : Option Addr} {sl_law_raised : Array (Option Value)} {oc_law_raised kV_law_raised dc_law_raised pm_law_raised cd_law_raised ct_law_raised : Value}
    {f_law_marks : Addr} {od_law_marks an_law_marks : Option Addr} {sl_law_marks : Array (Option Value)} {oc_law_marks kV_law_marks dc_law_marks pm_law_marks cd_law_marks ct_law_marks : Value}
    {f_law_kept : Addr} {od_law_kept an_law_kept : Option Addr} {sl_law_kept : Array (Option Value)} {oc_law_kept kV_law_kept dc_law_kept pm_law_kept cd_law_kept ct_law_kept : Value}
    {f_law : Addr} {od_law an_law : Option Addr} {sl_law : Array (Option Value)} {oc_law kV_law dc_law pm_law cd_law ct_law : Value}
    {C_SpareError : Addr}
    {C_BadPath : Addr}
    {kd_BadPath : ClassData}
    {fI_BadPath cda_BadPath cc_BadPath N_BadPath : Addr} {nm_BadPath q_BadPath : Str} {bs_BadPath bm_BadPath sub_BadPath : List Value} {sn_BadPath : List Str} {ab_BadPath : Bool} {col_BadPath : Option Bool} {dd_BadPath od_BadPath an_BadPath cdd_BadPath cld_BadPath : Option Addr} {k0_BadPath k1_BadPath k2_BadPath k3_BadPath k5_BadPath : Option Value}
    {oc_BadPath kV_BadPath doc_BadPath pm_BadPath ct_BadPath ccl_BadPath cl_BadPath : Value} {osl_BadPath ccs_BadPath csl_BadPath : Array (Option Value)} {vs_BadPath : Array Value} {file_BadPath : Str} {tf_BadPath : Tok}
    {C_BadText : Addr}
    {kd_BadText : ClassData}
    {fI_BadText cda_BadText cc_BadText N_BadText : Addr} {nm_BadText q_BadText : Str} {bs_BadText bm_BadText sub_BadText : List Value} {sn_BadText : List Str} {ab_BadText : Bool} {col_BadText : Option Bool} {dd_BadText od_BadText an_BadText cdd_BadText cld_BadText : Option Addr} {k0_BadText k1_BadText k2_BadText k3_BadText k5_BadText : Option Value}
    {oc_BadText kV_BadText doc_BadText pm_BadText ct_BadText ccl_BadText cl_BadText : Value} {osl_BadText ccs_BadText csl_BadText : Array (Option Value)} {vs_BadText : Array Value} {file_BadText : Str} {tf_BadText : Tok}
    {C_BadKind : Addr}
    {kd_BadKind : ClassData}
    {fI_BadKind cda_BadKind cc_BadKind N_BadKind : Addr} {nm_BadKind q_BadKind : Str} {bs_BadKind bm_BadKind sub_BadKind : List Value} {sn_BadKind : List Str} {ab_BadKind : Bool} {col_BadKind : Option Bool} {dd_BadKind od_BadKind an_BadKind cdd_BadKind cld_BadKind : Option Addr} {k0_BadKind k1_BadKind k2_BadKind k3_BadKind k5_BadKind : Option Value}
    {oc_BadKind kV_BadKind doc_BadKind pm_BadKind ct_BadKind ccl_BadKind cl_BadKind : Value} {osl_BadKind ccs_BadKind csl_BadKind : Array (Option Value)} {vs_BadKind : Array Value} {file_BadKind : Str} {tf_BadKind : Tok}
    {C_BadAnswer : Addr}
    {kd_BadAnswer : ClassData}
    {fI_BadAnswer cda_BadAnswer cc_BadAnswer N_BadAnswer : Addr} {nm_BadAnswer q_BadAnswer : Str} {bs_BadAnswer bm_BadAnswer sub_BadAnswer : List Value} {sn_BadAnswer : List Str} {ab_BadAnswer : Bool} {col_BadAnswer : Option Bool} {dd_BadAnswer od_BadAnswer an_BadAnswer cdd_BadAnswer cld_BadAnswer : Option Addr} {k0_BadAnswer k1_BadAnswer k2_BadAnswer k3_BadAnswer k5_BadAnswer : Option Value}
    {oc_BadAnswer kV_BadAnswer doc_BadAnswer pm_BadAnswer ct_BadAnswer ccl_BadAnswer cl_BadAnswer : Value} {osl_BadAnswer ccs_BadAnswer csl_BadAnswer : Array (Option Value)} {vs_BadAnswer : Array Value} {file_BadAnswer : Str} {tf_BadAnswer : Tok}
    {C_BadFaded : Addr}
    {kd_BadFaded : ClassData}
    {fI_BadFaded cda_BadFaded cc_BadFaded N_BadFaded : Addr} {nm_BadFaded q_BadFaded : Str} {bs_BadFaded bm_BadFaded sub_BadFaded : List Value} {sn_BadFaded : List Str} {ab_BadFaded : Bool} {col_BadFaded : Option Bool} {dd_BadFaded od_BadFaded an_BadFaded cdd_BadFaded cld_BadFaded : Option Addr} {k0_BadFaded k1_BadFaded k2_BadFaded k3_BadFaded k5_BadFaded : Option Value}
    {oc_BadFaded kV_BadFaded doc_BadFaded pm_BadFaded ct_BadFaded ccl_BadFaded cl_BadFaded : Value} {osl_BadFaded ccs_BadFaded csl_BadFaded : Array (Option Value)} {vs_BadFaded : Array Value} {file_BadFaded : Str} {tf_BadFaded : Tok}
    {C_BadEdit : Addr}
    {kd_BadEdit : ClassData}
    {fI_BadEdit cda_BadEdit cc_BadEdit N_BadEdit : Addr} {nm_BadEdit q_BadEdit : Str} {bs_BadEdit bm_BadEdit sub_BadEdit : List Value} {sn_BadEdit : List Str} {ab_BadEdit : Bool} {col_BadEdit : Option Bool} {dd_BadEdit od_BadEdit an_BadEdit cdd_BadEdit cld_BadEdit : Option Addr} {k0_BadEdit k1_BadEdit k2_BadEdit k3_BadEdit k5_BadEdit : Option Value}
    {oc_BadEdit kV_BadEdit doc_BadEdit pm_BadEdit ct_BadEdit ccl_BadEdit cl_BadEdit : Value} {osl_BadEdit ccs_BadEdit csl_BadEdit : Array (Option Value)} {vs_BadEdit : Array Value} {file_BadEdit : Str} {tf_BadEdit : Tok}
    {C_NoModule : Addr}
    {kd_NoModule : ClassData}
    {fI_NoModule cda_NoModule cc_NoModule N_NoModule : Addr} {nm_NoModule q_NoModule : Str} {bs_NoModule bm_NoModule sub_NoModule : List Value} {sn_NoModule : List Str} {ab_NoModule : Bool} {col_NoModule : Option Bool} {dd_NoModule od_NoModule an_NoModule cdd_NoModule cld_NoModule : Option Addr} {k0_NoModule k1_NoModule k2_NoModule k3_NoModule k5_NoModule : Option Value}
    {oc_NoModule kV_NoModule doc_NoModule pm_NoModule ct_NoModule ccl_NoModule cl_NoModule : Value} {osl_NoModule ccs_NoModule csl_NoModule : Array (Option Value)} {vs_NoModule : Array Value} {file_NoModule : Str} {tf_NoModule : Tok}
    {C_NoDefinition : Addr}
    {kd_NoDefinition : ClassData}
    {fI_NoDefinition cda_NoDefinition cc_NoDefinition N_NoDefinition : Addr} {nm_NoDefinition q_NoDefinition : Str} {bs_NoDefinition bm_NoDefinition sub_NoDefinition : List Value} {sn_NoDefinition : List Str} {ab_NoDefinition : Bool} {col_NoDefinition : Option Bool} {dd_NoDefinition od_NoDefinition an_NoDefinition cdd_NoDefinition cld_NoDefinition : Option Addr} {k0_NoDefinition k1_NoDefinition k2_NoDefinition k3_NoDefinition k5_NoDefinition : Option Value}
    {oc_NoDefinition kV_NoDefinition doc_NoDefinition pm_NoDefinition ct_NoDefinition ccl_NoDefinition cl_NoDefinition : Value} {osl_NoDefinition ccs_NoDefinition csl_NoDefinition : Array (Option Value)} {vs_NoDefinition : Array Value} {file_NoDefinition : Str} {tf_NoDefinition : Tok}
    {C_Used : Addr}
    {kd_Used : ClassData}
    {fI_Used cda_Used cc_Used N_Used : Addr} {nm_Used q_Used : Str} {bs_Used bm_Used sub_Used : List Value} {sn_Used : List Str} {ab_Used : Bool} {col_Used : Option Bool} {dd_Used od_Used an_Used cdd_Used cld_Used : Option Addr} {k0_Used k1_Used k2_Used k3_Used k5_Used : Option Value}
    {oc_Used kV_Used doc_Used pm_Used ct_Used ccl_Used cl_Used : Value} {osl_Used ccs_Used csl_Used : Array (Option Value)} {vs_Used : Array Value} {file_Used : Str} {tf_Used : Tok}
    {C_BadModule : Addr}
    {kd_BadModule : ClassData}
    {fI_BadModule cda_BadModule cc_BadModule N_BadModule : Addr} {nm_BadModule q_BadModule : Str} {bs_BadModule bm_BadModule sub_BadModule : List Value} {sn_BadModule : List Str} {ab_BadModule : Bool} {col_BadModule : Option Bool} {dd_BadModule od_BadModule an_BadModule cdd_BadModule cld_BadModule : Option Addr} {k0_BadModule k1_BadModule k2_BadModule k3_BadModule k5_BadModule : Option Value}
    {oc_BadModule kV_BadModule doc_BadModule pm_BadModule ct_BadModule ccl_BadModule cl_BadModule : Value} {osl_BadModule ccs_BadModule csl_BadModule : Array (Option Value)} {vs_BadModule : Array Value} {file_BadModule : Str} {tf_BadModule : Tok}
    {C_BadTree : Addr}
    {kd_BadTree : ClassData}
    {C_BadStart : Addr}
    {kd_BadStart : ClassData}
    {C_BadArguments : Addr}
    {kd_BadArguments : ClassData}
    {C_BadLimit : Addr}
    {kd_BadLimit : ClassData}
    {C_BadCase : Addr}
    {kd_BadCase : ClassData}
    {C_BadLedger : Addr}
    {kd_BadLedger : ClassData}
    {C_BadBeyond : Addr}
    {kd_BadBeyond : ClassData}
    {C_BadRoute : Addr}
    {kd_BadRoute : ClassData}
    {C_BadNames : Addr}
    {kd_BadNames : ClassData}
    (X : K.In h) (G : h.Ns mainGlobals mg) (hfa : mg "law" = some (.ref fa))
    (a_law_begun : PySem.W.nsIn K mainGlobals "_law_begun" = some (some (.ref f_law_begun)))
    (l_law_begun : K.lookup f_law_begun = some ⟨oc_law_begun, od_law_begun, .func (PySem.W.fnOf "_law_begun" "_law_begun" (defArgs s_law_begun) (defBody s_law_begun) (defScope s_law_begun) .none kV_law_begun dc_law_begun pm_law_begun an_law_begun cd_law_begun ct_law_begun), sl_law_begun⟩)
    (c_law_begun : PySem.W.codeIn K cd_law_begun "_law_begun" = true)
    (k_law_begun : PySem.W.keepIn K (.ref f_law_begun) = true)
    (a_law_mixed : PySem.W.nsIn K mainGlobals "_law_mixed" = some (some (.ref f_law_mixed)))
    (l_law_mixed : K.lookup f_law_mixed = some ⟨oc_law_mixed, od_law_mixed, .func (PySem.W.fnOf "_law_mixed" "_law_mixed" (defArgs s_law_mixed) (defBody s_law_mixed) (defScope s_law_mixed) .none kV_law_mixed dc_law_mixed pm_law_mixed an_law_mixed cd_law_mixed ct_law_mixed), sl_law_mixed⟩)
    (c_law_mixed : PySem.W.codeIn K cd_law_mixed "_law_mixed" = true)
    (k_law_mixed : PySem.W.keepIn K (.ref f_law_mixed) = true)
    (a_law_take : PySem.W.nsIn K mainGlobals "_law_take" = some (some (.ref f_law_take)))
    (l_law_take : K.lookup f_law_take = some ⟨oc_law_take, od_law_take, .func (PySem.W.fnOf "_law_take" "_law_take" (defArgs s_law_take) (defBody s_law_take) (defScope s_law_take) .none kV_law_take dc_law_take pm_law_take an_law_take cd_law_take ct_law_take), sl_law_take⟩)
    (c_law_take : PySem.W.codeIn K cd_law_take "_law_take" = true)
    (k_law_take : PySem.W.keepIn K (.ref f_law_take) = true)
    (a_law_pick : PySem.W.nsIn K mainGlobals "_law_pick" = some (some (.ref f_law_pick)))
    (l_law_pick : K.lookup f_law_pick = some ⟨oc_law_pick, od_law_pick, .func (PySem.W.fnOf "_law_pick" "_law_pick" (defArgs s_law_pick) (defBody s_law_pick) (defScope s_law_pick) .none kV_law_pick dc_law_pick pm_law_pick an_law_pick cd_law_pick ct_law_pick), sl_law_pick⟩)
    (c_law_pick : PySem.W.codeIn K cd_law_pick "_law_pick" = true)
    (k_law_pick : PySem.W.keepIn K (.ref f_law_pick) = true)
    (a_law_with_number : PySem.W.nsIn K mainGlobals "_law_with_number" = some (some (.ref f_law_with_number)))
    (l_law_with_number : K.lookup f_law_with_number = some ⟨oc_law_with_number, od_law_with_number, .func (PySem.W.fnOf "_law_with_number" "_law_with_number" (defArgs s_law_with_number) (defBody s_law_with_number) (defScope s_law_with_number) .none kV_law_with_number dc_law_with_number pm_law_with_number an_law_with_number cd_law_with_number ct_law_with_number), sl_law_with_number⟩)
    (c_law_with_number : PySem.W.codeIn K cd_law_with_number "_law_with_number" = true)
    (k_law_with_number : PySem.W.keepIn K (.ref f_law_with_number) = true)
    (a_law_with_thing : PySem.W.nsIn K mainGlobals "_law_with_thing" = some (some (.ref f_law_with_thing)))
    (l_law_with_thing : K.lookup f_law_with_thing = some ⟨oc_law_with_thing, od_law_with_thing, .func (PySem.W.fnOf "_law_with_thing" "_law_with_thing" (defArgs s_law_with_thing) (defBody s_law_with_thing) (defScope s_law_with_thing) .none kV_law_with_thing dc_law_with_thing pm_law_with_thing an_law_with_thing cd_law_with_thing ct_law_with_thing), sl_law_with_thing⟩)
    (c_law_with_thing : PySem.W.codeIn K cd_law_with_thing "_law_with_thing" = true)
    (k_law_with_thing : PySem.W.keepIn K (.ref f_law_with_thing) = true)
    (a_law_with_message : PySem.W.nsIn K mainGlobals "_law_with_message" = some (some (.ref f_law_with_message)))
    (l_law_with_message : K.lookup f_law_with_message = some ⟨oc_law_with_message, od_law_with_message, .func (PySem.W.fnOf "_law_with_message" "_law_with_message" (defArgs s_law_with_message) (defBody s_law_with_message) (defScope s_law_with_message) .none kV_law_with_message dc_law_with_message pm_law_with_message an_law_with_message cd_law_with_message ct_law_with_message), sl_law_with_message⟩)
    (c_law_with_message : PySem.W.codeIn K cd_law_with_message "_law_with_message" = true)
    (k_law_with_message : PySem.W.keepIn K (.ref f_law_with_message) = true)
    (a_law_raised : PySem.W.nsIn K mainGlobals "_law_raised" = some (some (.ref f_law_raised)))
    (l_law_raised : K.lookup f_law_raised = some ⟨oc_law_raised, od_law_raised, .func (PySem.W.fnOf "_law_raised" "_law_raised" (defArgs s_law_raised) (defBody s_law_raised) (defScope s_law_raised) .none kV_law_raised dc_law_raised pm_law_raised an_law_raised cd_law_raised ct_law_raised), sl_law_raised⟩)
    (c_law_raised : PySem.W.codeIn K cd_law_raised "_law_raised" = true)
    (k_law_raised : PySem.W.keepIn K (.ref f_law_raised) = true)
    (a_law_marks : PySem.W.nsIn K mainGlobals "_law_marks" = some (some (.ref f_law_marks)))
    (l_law_marks : K.lookup f_law_marks = some ⟨oc_law_marks, od_law_marks, .func (PySem.W.fnOf "_law_marks" "_law_marks" (defArgs s_law_marks) (defBody s_law_marks) (defScope s_law_marks) .none kV_law_marks dc_law_marks pm_law_marks an_law_marks cd_law_marks ct_law_marks), sl_law_marks⟩)
    (c_law_marks : PySem.W.codeIn K cd_law_marks "_law_marks" = true)
    (k_law_marks : PySem.W.keepIn K (.ref f_law_marks) = true)
    (a_law_kept : PySem.W.nsIn K mainGlobals "_law_kept" = some (some (.ref f_law_kept)))
    (l_law_kept : K.lookup f_law_kept = some ⟨oc_law_kept, od_law_kept, .func (PySem.W.fnOf "_law_kept" "_law_kept" (defArgs s_law_kept) (defBody s_law_kept) (defScope s_law_kept) .none kV_law_kept dc_law_kept pm_law_kept an_law_kept cd_law_kept ct_law_kept), sl_law_kept⟩)
    (c_law_kept : PySem.W.codeIn K cd_law_kept "_law_kept" = true)
    (k_law_kept : PySem.W.keepIn K (.ref f_law_kept) = true)
    (a_law : PySem.W.nsIn K mainGlobals "law" = some (some (.ref f_law)))
    (l_law : K.lookup f_law = some ⟨oc_law, od_law, .func (PySem.W.fnOf "law" "law" (defArgs s_law) (defBody s_law) (defScope s_law) .none kV_law dc_law pm_law an_law cd_law ct_law), sl_law⟩)
    (c_law : PySem.W.codeIn K cd_law "law" = true)
    (k_law : PySem.W.keepIn K (.ref f_law) = true)
    (z_super : PySem.W.nsIn K mainGlobals "super" = some none)
    (z_list : PySem.W.nsIn K mainGlobals "list" = some none)
    (z_int : PySem.W.nsIn K mainGlobals "int" = some none)
    (z_len : PySem.W.nsIn K mainGlobals "len" = some none)
    (z_isinstance : PySem.W.nsIn K mainGlobals "isinstance" = some none)
    (z_range : PySem.W.nsIn K mainGlobals "range" = some none)
    (z_min : PySem.W.nsIn K mainGlobals "min" = some none)
    (z_repr : PySem.W.nsIn K mainGlobals "repr" = some none)
    (z_ValueError : PySem.W.nsIn K mainGlobals "ValueError" = some none)
    (a_SpareError : PySem.W.nsIn K mainGlobals "SpareError" = some (some (.ref C_SpareError)))
    (ga_SpareError : PySem.W.findIn K (.ref C_SpareError) "__getattribute__" = some (some (.builtin "BaseException.__getattribute__")))
    (gg_SpareError : PySem.W.findIn K (.ref C_SpareError) "__getattr__" = some none)
    (ex_SpareError : PySem.W.subIn K (.ref C_SpareError) (.type "BaseException") = some true)
    (hd_SpareError : PySem.W.hasDictIn K C_SpareError = true)
    (ih_SpareError : PySem.W.findIn K (.ref C_SpareError) "__class__" = some (some (.builtin "object.__class__")))
    (in_SpareError : PySem.W.specialIn K (.builtin "object.__class__") "__get__" = some (some (.builtin "getset_descriptor.__get__")))
    (it_SpareError : PySem.W.takesIn K (.builtin "object.__class__") = some true)
    (im_SpareError : PySem.W.mroIn K C_SpareError (.type "object") = some true)
    (ty_SpareError : PySem.W.typeIn K (.ref C_SpareError) = some (.type "type"))
    (kc_SpareError : PySem.W.keepIn K (.ref C_SpareError) = true)
    (sb_SpareError : PySem.W.subIn K (.ref C_SpareError) (.ref C_SpareError) = some true)
    (a_BadPath : PySem.W.nsIn K mainGlobals "BadPath" = some (some (.ref C_BadPath)))
    (ga_BadPath : PySem.W.findIn K (.ref C_BadPath) "__getattribute__" = some (some (.builtin "BaseException.__getattribute__")))
    (gg_BadPath : PySem.W.findIn K (.ref C_BadPath) "__getattr__" = some none)
    (ex_BadPath : PySem.W.subIn K (.ref C_BadPath) (.type "BaseException") = some true)
    (hd_BadPath : PySem.W.hasDictIn K C_BadPath = true)
    (ih_BadPath : PySem.W.findIn K (.ref C_BadPath) "__class__" = some (some (.builtin "object.__class__")))
    (in_BadPath : PySem.W.specialIn K (.builtin "object.__class__") "__get__" = some (some (.builtin "getset_descriptor.__get__")))
    (it_BadPath : PySem.W.takesIn K (.builtin "object.__class__") = some true)
    (im_BadPath : PySem.W.mroIn K C_BadPath (.type "object") = some true)
    (ty_BadPath : PySem.W.typeIn K (.ref C_BadPath) = some (.type "type"))
    (kc_BadPath : PySem.W.keepIn K (.ref C_BadPath) = true)
    (sb_BadPath : PySem.W.subIn K (.ref C_BadPath) (.ref C_SpareError) = some true)
    (kl_BadPath : PySem.W.clsIn K C_BadPath = some kd_BadPath)
    (kr_BadPath : kd_BadPath.mro = [.ref C_BadPath, .ref C_SpareError, .type "ValueError", .type "Exception", .type "BaseException", .type "object"])
    (xl_BadPath : K.lookup C_BadPath = some (excClassObj nm_BadPath q_BadPath C_BadPath N_BadPath bs_BadPath bm_BadPath true sn_BadPath sub_BadPath ab_BadPath col_BadPath dd_BadPath k0_BadPath k1_BadPath k2_BadPath k3_BadPath k5_BadPath "ValueError.__new__"))
    (rv_BadPath : PySem.HandSPX.refsVE bm_BadPath = true)
    (sa_BadPath : PySem.W.findIn K (.ref C_BadPath) "__setattr__" = some (some (.builtin "object.__setattr__")))
    (no_k_BadPath : PySem.W.findIn K (.ref C_BadPath) "k" = some none)
    (ai_BadPath : PySem.W.findIn K (.ref C_BadPath) "__init__" = some (some (.ref fI_BadPath)))
    (ti_BadPath : PySem.W.typeIn K (.ref fI_BadPath) = some (.type "function"))
    (li_BadPath : K.lookup fI_BadPath = some ⟨oc_BadPath, od_BadPath, .func (PySem.W.ksFn "__init__" "BadPath.__init__" (defArgs s_BadPath_init) (defBody s_BadPath_init) (defScope s_BadPath_init) .none kV_BadPath doc_BadPath pm_BadPath an_BadPath (.ref cda_BadPath) ct_BadPath cc_BadPath), osl_BadPath⟩)
    (ci_BadPath : PySem.W.codeIn K (.ref cda_BadPath) "BadPath.__init__" = true)
    (lc_BadPath : K.lookup cda_BadPath = some ⟨ccl_BadPath, cdd_BadPath, .fields vs_BadPath, ccs_BadPath⟩)
    (hv_BadPath : vs_BadPath[2]? = some (.str file_BadPath tf_BadPath))
    (hf_BadPath : (mainFile == file_BadPath) = true)
    (ce_BadPath : K.lookup cc_BadPath = some ⟨cl_BadPath, cld_BadPath, .cell (some (.ref C_BadPath)), csl_BadPath⟩)
    (su_BadPath : PySem.W.ks_superIn K C_BadPath C_BadPath "__init__" = some (some (.builtin "ValueError.__init__")))
    (se_BadPath : PySem.W.mroIn K C_BadPath (.ref C_BadPath) = some true)
    (op_BadPath : PySem.W.nsIn K cStatics "thirdparty.any" = some none)
    (ve_BadPath : PySem.W.subIn K (.ref C_BadPath) (.type "ValueError") = some true)
    (a_BadText : PySem.W.nsIn K mainGlobals "BadText" = some (some (.ref C_BadText)))
    (ga_BadText : PySem.W.findIn K (.ref C_BadText) "__getattribute__" = some (some (.builtin "BaseException.__getattribute__")))
    (gg_BadText : PySem.W.findIn K (.ref C_BadText) "__getattr__" = some none)
    (ex_BadText : PySem.W.subIn K (.ref C_BadText) (.type "BaseException") = some true)
    (hd_BadText : PySem.W.hasDictIn K C_BadText = true)
    (ih_BadText : PySem.W.findIn K (.ref C_BadText) "__class__" = some (some (.builtin "object.__class__")))
    (in_BadText : PySem.W.specialIn K (.builtin "object.__class__") "__get__" = some (some (.builtin "getset_descriptor.__get__")))
    (it_BadText : PySem.W.takesIn K (.builtin "object.__class__") = some true)
    (im_BadText : PySem.W.mroIn K C_BadText (.type "object") = some true)
    (ty_BadText : PySem.W.typeIn K (.ref C_BadText) = some (.type "type"))
    (kc_BadText : PySem.W.keepIn K (.ref C_BadText) = true)
    (sb_BadText : PySem.W.subIn K (.ref C_BadText) (.ref C_SpareError) = some true)
    (kl_BadText : PySem.W.clsIn K C_BadText = some kd_BadText)
    (kr_BadText : kd_BadText.mro = [.ref C_BadText, .ref C_SpareError, .type "ValueError", .type "Exception", .type "BaseException", .type "object"])
    (xl_BadText : K.lookup C_BadText = some (excClassObj nm_BadText q_BadText C_BadText N_BadText bs_BadText bm_BadText true sn_BadText sub_BadText ab_BadText col_BadText dd_BadText k0_BadText k1_BadText k2_BadText k3_BadText k5_BadText "ValueError.__new__"))
    (rv_BadText : PySem.HandSPX.refsVE bm_BadText = true)
    (sa_BadText : PySem.W.findIn K (.ref C_BadText) "__setattr__" = some (some (.builtin "object.__setattr__")))
    (no_line_BadText : PySem.W.findIn K (.ref C_BadText) "line" = some none)
    (ai_BadText : PySem.W.findIn K (.ref C_BadText) "__init__" = some (some (.ref fI_BadText)))
    (ti_BadText : PySem.W.typeIn K (.ref fI_BadText) = some (.type "function"))
    (li_BadText : K.lookup fI_BadText = some ⟨oc_BadText, od_BadText, .func (PySem.W.ksFn "__init__" "BadText.__init__" (defArgs s_BadText_init) (defBody s_BadText_init) (defScope s_BadText_init) .none kV_BadText doc_BadText pm_BadText an_BadText (.ref cda_BadText) ct_BadText cc_BadText), osl_BadText⟩)
    (ci_BadText : PySem.W.codeIn K (.ref cda_BadText) "BadText.__init__" = true)
    (lc_BadText : K.lookup cda_BadText = some ⟨ccl_BadText, cdd_BadText, .fields vs_BadText, ccs_BadText⟩)
    (hv_BadText : vs_BadText[2]? = some (.str file_BadText tf_BadText))
    (hf_BadText : (mainFile == file_BadText) = true)
    (ce_BadText : K.lookup cc_BadText = some ⟨cl_BadText, cld_BadText, .cell (some (.ref C_BadText)), csl_BadText⟩)
    (su_BadText : PySem.W.ks_superIn K C_BadText C_BadText "__init__" = some (some (.builtin "ValueError.__init__")))
    (se_BadText : PySem.W.mroIn K C_BadText (.ref C_BadText) = some true)
    (op_BadText : PySem.W.nsIn K cStatics "thirdparty.any" = some none)
    (ve_BadText : PySem.W.subIn K (.ref C_BadText) (.type "ValueError") = some true)
    (a_BadKind : PySem.W.nsIn K mainGlobals "BadKind" = some (some (.ref C_BadKind)))
    (ga_BadKind : PySem.W.findIn K (.ref C_BadKind) "__getattribute__" = some (some (.builtin "BaseException.__getattribute__")))
    (gg_BadKind : PySem.W.findIn K (.ref C_BadKind) "__getattr__" = some none)
    (ex_BadKind : PySem.W.subIn K (.ref C_BadKind) (.type "BaseException") = some true)
    (hd_BadKind : PySem.W.hasDictIn K C_BadKind = true)
    (ih_BadKind : PySem.W.findIn K (.ref C_BadKind) "__class__" = some (some (.builtin "object.__class__")))
    (in_BadKind : PySem.W.specialIn K (.builtin "object.__class__") "__get__" = some (some (.builtin "getset_descriptor.__get__")))
    (it_BadKind : PySem.W.takesIn K (.builtin "object.__class__") = some true)
    (im_BadKind : PySem.W.mroIn K C_BadKind (.type "object") = some true)
    (ty_BadKind : PySem.W.typeIn K (.ref C_BadKind) = some (.type "type"))
    (kc_BadKind : PySem.W.keepIn K (.ref C_BadKind) = true)
    (sb_BadKind : PySem.W.subIn K (.ref C_BadKind) (.ref C_SpareError) = some true)
    (kl_BadKind : PySem.W.clsIn K C_BadKind = some kd_BadKind)
    (kr_BadKind : kd_BadKind.mro = [.ref C_BadKind, .ref C_SpareError, .type "ValueError", .type "Exception", .type "BaseException", .type "object"])
    (xl_BadKind : K.lookup C_BadKind = some (excClassObj nm_BadKind q_BadKind C_BadKind N_BadKind bs_BadKind bm_BadKind true sn_BadKind sub_BadKind ab_BadKind col_BadKind dd_BadKind k0_BadKind k1_BadKind k2_BadKind k3_BadKind k5_BadKind "ValueError.__new__"))
    (rv_BadKind : PySem.HandSPX.refsVE bm_BadKind = true)
    (sa_BadKind : PySem.W.findIn K (.ref C_BadKind) "__setattr__" = some (some (.builtin "object.__setattr__")))
    (no_k_BadKind : PySem.W.findIn K (.ref C_BadKind) "k" = some none)
    (ai_BadKind : PySem.W.findIn K (.ref C_BadKind) "__init__" = some (some (.ref fI_BadKind)))
    (ti_BadKind : PySem.W.typeIn K (.ref fI_BadKind) = some (.type "function"))
    (li_BadKind : K.lookup fI_BadKind = some ⟨oc_BadKind, od_BadKind, .func (PySem.W.ksFn "__init__" "BadKind.__init__" (defArgs s_BadKind_init) (defBody s_BadKind_init) (defScope s_BadKind_init) .none kV_BadKind doc_BadKind pm_BadKind an_BadKind (.ref cda_BadKind) ct_BadKind cc_BadKind), osl_BadKind⟩)
    (ci_BadKind : PySem.W.codeIn K (.ref cda_BadKind) "BadKind.__init__" = true)
    (lc_BadKind : K.lookup cda_BadKind = some ⟨ccl_BadKind, cdd_BadKind, .fields vs_BadKind, ccs_BadKind⟩)
    (hv_BadKind : vs_BadKind[2]? = some (.str file_BadKind tf_BadKind))
    (hf_BadKind : (mainFile == file_BadKind) = true)
    (ce_BadKind : K.lookup cc_BadKind = some ⟨cl_BadKind, cld_BadKind, .cell (some (.ref C_BadKind)), csl_BadKind⟩)
    (su_BadKind : PySem.W.ks_superIn K C_BadKind C_BadKind "__init__" = some (some (.builtin "ValueError.__init__")))
    (se_BadKind : PySem.W.mroIn K C_BadKind (.ref C_BadKind) = some true)
    (op_BadKind : PySem.W.nsIn K cStatics "thirdparty.any" = some none)
    (ve_BadKind : PySem.W.subIn K (.ref C_BadKind) (.type "ValueError") = some true)
    (a_BadAnswer : PySem.W.nsIn K mainGlobals "BadAnswer" = some (some (.ref C_BadAnswer)))
    (ga_BadAnswer : PySem.W.findIn K (.ref C_BadAnswer) "__getattribute__" = some (some (.builtin "BaseException.__getattribute__")))
    (gg_BadAnswer : PySem.W.findIn K (.ref C_BadAnswer) "__getattr__" = some none)
    (ex_BadAnswer : PySem.W.subIn K (.ref C_BadAnswer) (.type "BaseException") = some true)
    (hd_BadAnswer : PySem.W.hasDictIn K C_BadAnswer = true)
    (ih_BadAnswer : PySem.W.findIn K (.ref C_BadAnswer) "__class__" = some (some (.builtin "object.__class__")))
    (in_BadAnswer : PySem.W.specialIn K (.builtin "object.__class__") "__get__" = some (some (.builtin "getset_descriptor.__get__")))
    (it_BadAnswer : PySem.W.takesIn K (.builtin "object.__class__") = some true)
    (im_BadAnswer : PySem.W.mroIn K C_BadAnswer (.type "object") = some true)
    (ty_BadAnswer : PySem.W.typeIn K (.ref C_BadAnswer) = some (.type "type"))
    (kc_BadAnswer : PySem.W.keepIn K (.ref C_BadAnswer) = true)
    (sb_BadAnswer : PySem.W.subIn K (.ref C_BadAnswer) (.ref C_SpareError) = some true)
    (kl_BadAnswer : PySem.W.clsIn K C_BadAnswer = some kd_BadAnswer)
    (kr_BadAnswer : kd_BadAnswer.mro = [.ref C_BadAnswer, .ref C_SpareError, .type "ValueError", .type "Exception", .type "BaseException", .type "object"])
    (xl_BadAnswer : K.lookup C_BadAnswer = some (excClassObj nm_BadAnswer q_BadAnswer C_BadAnswer N_BadAnswer bs_BadAnswer bm_BadAnswer true sn_BadAnswer sub_BadAnswer ab_BadAnswer col_BadAnswer dd_BadAnswer k0_BadAnswer k1_BadAnswer k2_BadAnswer k3_BadAnswer k5_BadAnswer "ValueError.__new__"))
    (rv_BadAnswer : PySem.HandSPX.refsVE bm_BadAnswer = true)
    (sa_BadAnswer : PySem.W.findIn K (.ref C_BadAnswer) "__setattr__" = some (some (.builtin "object.__setattr__")))
    (no_k_BadAnswer : PySem.W.findIn K (.ref C_BadAnswer) "k" = some none)
    (ai_BadAnswer : PySem.W.findIn K (.ref C_BadAnswer) "__init__" = some (some (.ref fI_BadAnswer)))
    (ti_BadAnswer : PySem.W.typeIn K (.ref fI_BadAnswer) = some (.type "function"))
    (li_BadAnswer : K.lookup fI_BadAnswer = some ⟨oc_BadAnswer, od_BadAnswer, .func (PySem.W.ksFn "__init__" "BadAnswer.__init__" (defArgs s_BadAnswer_init) (defBody s_BadAnswer_init) (defScope s_BadAnswer_init) .none kV_BadAnswer doc_BadAnswer pm_BadAnswer an_BadAnswer (.ref cda_BadAnswer) ct_BadAnswer cc_BadAnswer), osl_BadAnswer⟩)
    (ci_BadAnswer : PySem.W.codeIn K (.ref cda_BadAnswer) "BadAnswer.__init__" = true)
    (lc_BadAnswer : K.lookup cda_BadAnswer = some ⟨ccl_BadAnswer, cdd_BadAnswer, .fields vs_BadAnswer, ccs_BadAnswer⟩)
    (hv_BadAnswer : vs_BadAnswer[2]? = some (.str file_BadAnswer tf_BadAnswer))
    (hf_BadAnswer : (mainFile == file_BadAnswer) = true)
    (ce_BadAnswer : K.lookup cc_BadAnswer = some ⟨cl_BadAnswer, cld_BadAnswer, .cell (some (.ref C_BadAnswer)), csl_BadAnswer⟩)
    (su_BadAnswer : PySem.W.ks_superIn K C_BadAnswer C_BadAnswer "__init__" = some (some (.builtin "ValueError.__init__")))
    (se_BadAnswer : PySem.W.mroIn K C_BadAnswer (.ref C_BadAnswer) = some true)
    (op_BadAnswer : PySem.W.nsIn K cStatics "thirdparty.any" = some none)
    (ve_BadAnswer : PySem.W.subIn K (.ref C_BadAnswer) (.type "ValueError") = some true)
    (a_BadFaded : PySem.W.nsIn K mainGlobals "BadFaded" = some (some (.ref C_BadFaded)))
    (ga_BadFaded : PySem.W.findIn K (.ref C_BadFaded) "__getattribute__" = some (some (.builtin "BaseException.__getattribute__")))
    (gg_BadFaded : PySem.W.findIn K (.ref C_BadFaded) "__getattr__" = some none)
    (ex_BadFaded : PySem.W.subIn K (.ref C_BadFaded) (.type "BaseException") = some true)
    (hd_BadFaded : PySem.W.hasDictIn K C_BadFaded = true)
    (ih_BadFaded : PySem.W.findIn K (.ref C_BadFaded) "__class__" = some (some (.builtin "object.__class__")))
    (in_BadFaded : PySem.W.specialIn K (.builtin "object.__class__") "__get__" = some (some (.builtin "getset_descriptor.__get__")))
    (it_BadFaded : PySem.W.takesIn K (.builtin "object.__class__") = some true)
    (im_BadFaded : PySem.W.mroIn K C_BadFaded (.type "object") = some true)
    (ty_BadFaded : PySem.W.typeIn K (.ref C_BadFaded) = some (.type "type"))
    (kc_BadFaded : PySem.W.keepIn K (.ref C_BadFaded) = true)
    (sb_BadFaded : PySem.W.subIn K (.ref C_BadFaded) (.ref C_SpareError) = some true)
    (kl_BadFaded : PySem.W.clsIn K C_BadFaded = some kd_BadFaded)
    (kr_BadFaded : kd_BadFaded.mro = [.ref C_BadFaded, .ref C_SpareError, .type "ValueError", .type "Exception", .type "BaseException", .type "object"])
    (xl_BadFaded : K.lookup C_BadFaded = some (excClassObj nm_BadFaded q_BadFaded C_BadFaded N_BadFaded bs_BadFaded bm_BadFaded true sn_BadFaded sub_BadFaded ab_BadFaded col_BadFaded dd_BadFaded k0_BadFaded k1_BadFaded k2_BadFaded k3_BadFaded k5_BadFaded "ValueError.__new__"))
    (rv_BadFaded : PySem.HandSPX.refsVE bm_BadFaded = true)
    (sa_BadFaded : PySem.W.findIn K (.ref C_BadFaded) "__setattr__" = some (some (.builtin "object.__setattr__")))
    (no_k_BadFaded : PySem.W.findIn K (.ref C_BadFaded) "k" = some none)
    (ai_BadFaded : PySem.W.findIn K (.ref C_BadFaded) "__init__" = some (some (.ref fI_BadFaded)))
    (ti_BadFaded : PySem.W.typeIn K (.ref fI_BadFaded) = some (.type "function"))
    (li_BadFaded : K.lookup fI_BadFaded = some ⟨oc_BadFaded, od_BadFaded, .func (PySem.W.ksFn "__init__" "BadFaded.__init__" (defArgs s_BadFaded_init) (defBody s_BadFaded_init) (defScope s_BadFaded_init) .none kV_BadFaded doc_BadFaded pm_BadFaded an_BadFaded (.ref cda_BadFaded) ct_BadFaded cc_BadFaded), osl_BadFaded⟩)
    (ci_BadFaded : PySem.W.codeIn K (.ref cda_BadFaded) "BadFaded.__init__" = true)
    (lc_BadFaded : K.lookup cda_BadFaded = some ⟨ccl_BadFaded, cdd_BadFaded, .fields vs_BadFaded, ccs_BadFaded⟩)
    (hv_BadFaded : vs_BadFaded[2]? = some (.str file_BadFaded tf_BadFaded))
    (hf_BadFaded : (mainFile == file_BadFaded) = true)
    (ce_BadFaded : K.lookup cc_BadFaded = some ⟨cl_BadFaded, cld_BadFaded, .cell (some (.ref C_BadFaded)), csl_BadFaded⟩)
    (su_BadFaded : PySem.W.ks_superIn K C_BadFaded C_BadFaded "__init__" = some (some (.builtin "ValueError.__init__")))
    (se_BadFaded : PySem.W.mroIn K C_BadFaded (.ref C_BadFaded) = some true)
    (op_BadFaded : PySem.W.nsIn K cStatics "thirdparty.any" = some none)
    (ve_BadFaded : PySem.W.subIn K (.ref C_BadFaded) (.type "ValueError") = some true)
    (a_BadEdit : PySem.W.nsIn K mainGlobals "BadEdit" = some (some (.ref C_BadEdit)))
    (ga_BadEdit : PySem.W.findIn K (.ref C_BadEdit) "__getattribute__" = some (some (.builtin "BaseException.__getattribute__")))
    (gg_BadEdit : PySem.W.findIn K (.ref C_BadEdit) "__getattr__" = some none)
    (ex_BadEdit : PySem.W.subIn K (.ref C_BadEdit) (.type "BaseException") = some true)
    (hd_BadEdit : PySem.W.hasDictIn K C_BadEdit = true)
    (ih_BadEdit : PySem.W.findIn K (.ref C_BadEdit) "__class__" = some (some (.builtin "object.__class__")))
    (in_BadEdit : PySem.W.specialIn K (.builtin "object.__class__") "__get__" = some (some (.builtin "getset_descriptor.__get__")))
    (it_BadEdit : PySem.W.takesIn K (.builtin "object.__class__") = some true)
    (im_BadEdit : PySem.W.mroIn K C_BadEdit (.type "object") = some true)
    (ty_BadEdit : PySem.W.typeIn K (.ref C_BadEdit) = some (.type "type"))
    (kc_BadEdit : PySem.W.keepIn K (.ref C_BadEdit) = true)
    (sb_BadEdit : PySem.W.subIn K (.ref C_BadEdit) (.ref C_SpareError) = some true)
    (kl_BadEdit : PySem.W.clsIn K C_BadEdit = some kd_BadEdit)
    (kr_BadEdit : kd_BadEdit.mro = [.ref C_BadEdit, .ref C_SpareError, .type "ValueError", .type "Exception", .type "BaseException", .type "object"])
    (xl_BadEdit : K.lookup C_BadEdit = some (excClassObj nm_BadEdit q_BadEdit C_BadEdit N_BadEdit bs_BadEdit bm_BadEdit true sn_BadEdit sub_BadEdit ab_BadEdit col_BadEdit dd_BadEdit k0_BadEdit k1_BadEdit k2_BadEdit k3_BadEdit k5_BadEdit "ValueError.__new__"))
    (rv_BadEdit : PySem.HandSPX.refsVE bm_BadEdit = true)
    (sa_BadEdit : PySem.W.findIn K (.ref C_BadEdit) "__setattr__" = some (some (.builtin "object.__setattr__")))
    (no_k_BadEdit : PySem.W.findIn K (.ref C_BadEdit) "k" = some none)
    (ai_BadEdit : PySem.W.findIn K (.ref C_BadEdit) "__init__" = some (some (.ref fI_BadEdit)))
    (ti_BadEdit : PySem.W.typeIn K (.ref fI_BadEdit) = some (.type "function"))
    (li_BadEdit : K.lookup fI_BadEdit = some ⟨oc_BadEdit, od_BadEdit, .func (PySem.W.ksFn "__init__" "BadEdit.__init__" (defArgs s_BadEdit_init) (defBody s_BadEdit_init) (defScope s_BadEdit_init) .none kV_BadEdit doc_BadEdit pm_BadEdit an_BadEdit (.ref cda_BadEdit) ct_BadEdit cc_BadEdit), osl_BadEdit⟩)
    (ci_BadEdit : PySem.W.codeIn K (.ref cda_BadEdit) "BadEdit.__init__" = true)
    (lc_BadEdit : K.lookup cda_BadEdit = some ⟨ccl_BadEdit, cdd_BadEdit, .fields vs_BadEdit, ccs_BadEdit⟩)
    (hv_BadEdit : vs_BadEdit[2]? = some (.str file_BadEdit tf_BadEdit))
    (hf_BadEdit : (mainFile == file_BadEdit) = true)
    (ce_BadEdit : K.lookup cc_BadEdit = some ⟨cl_BadEdit, cld_BadEdit, .cell (some (.ref C_BadEdit)), csl_BadEdit⟩)
    (su_BadEdit : PySem.W.ks_superIn K C_BadEdit C_BadEdit "__init__" = some (some (.builtin "ValueError.__init__")))
    (se_BadEdit : PySem.W.mroIn K C_BadEdit (.ref C_BadEdit) = some true)
    (op_BadEdit : PySem.W.nsIn K cStatics "thirdparty.any" = some none)
    (ve_BadEdit : PySem.W.subIn K (.ref C_BadEdit) (.type "ValueError") = some true)
    (a_NoModule : PySem.W.nsIn K mainGlobals "NoModule" = some (some (.ref C_NoModule)))
    (ga_NoModule : PySem.W.findIn K (.ref C_NoModule) "__getattribute__" = some (some (.builtin "BaseException.__getattribute__")))
    (gg_NoModule : PySem.W.findIn K (.ref C_NoModule) "__getattr__" = some none)
    (ex_NoModule : PySem.W.subIn K (.ref C_NoModule) (.type "BaseException") = some true)
    (hd_NoModule : PySem.W.hasDictIn K C_NoModule = true)
    (ih_NoModule : PySem.W.findIn K (.ref C_NoModule) "__class__" = some (some (.builtin "object.__class__")))
    (in_NoModule : PySem.W.specialIn K (.builtin "object.__class__") "__get__" = some (some (.builtin "getset_descriptor.__get__")))
    (it_NoModule : PySem.W.takesIn K (.builtin "object.__class__") = some true)
    (im_NoModule : PySem.W.mroIn K C_NoModule (.type "object") = some true)
    (ty_NoModule : PySem.W.typeIn K (.ref C_NoModule) = some (.type "type"))
    (kc_NoModule : PySem.W.keepIn K (.ref C_NoModule) = true)
    (sb_NoModule : PySem.W.subIn K (.ref C_NoModule) (.ref C_SpareError) = some true)
    (kl_NoModule : PySem.W.clsIn K C_NoModule = some kd_NoModule)
    (kr_NoModule : kd_NoModule.mro = [.ref C_NoModule, .ref C_SpareError, .type "ValueError", .type "Exception", .type "BaseException", .type "object"])
    (xl_NoModule : K.lookup C_NoModule = some (excClassObj nm_NoModule q_NoModule C_NoModule N_NoModule bs_NoModule bm_NoModule true sn_NoModule sub_NoModule ab_NoModule col_NoModule dd_NoModule k0_NoModule k1_NoModule k2_NoModule k3_NoModule k5_NoModule "ValueError.__new__"))
    (rv_NoModule : PySem.HandSPX.refsVE bm_NoModule = true)
    (sa_NoModule : PySem.W.findIn K (.ref C_NoModule) "__setattr__" = some (some (.builtin "object.__setattr__")))
    (no_name_NoModule : PySem.W.findIn K (.ref C_NoModule) "name" = some none)
    (ai_NoModule : PySem.W.findIn K (.ref C_NoModule) "__init__" = some (some (.ref fI_NoModule)))
    (ti_NoModule : PySem.W.typeIn K (.ref fI_NoModule) = some (.type "function"))
    (li_NoModule : K.lookup fI_NoModule = some ⟨oc_NoModule, od_NoModule, .func (PySem.W.ksFn "__init__" "NoModule.__init__" (defArgs s_NoModule_init) (defBody s_NoModule_init) (defScope s_NoModule_init) .none kV_NoModule doc_NoModule pm_NoModule an_NoModule (.ref cda_NoModule) ct_NoModule cc_NoModule), osl_NoModule⟩)
    (ci_NoModule : PySem.W.codeIn K (.ref cda_NoModule) "NoModule.__init__" = true)
    (lc_NoModule : K.lookup cda_NoModule = some ⟨ccl_NoModule, cdd_NoModule, .fields vs_NoModule, ccs_NoModule⟩)
    (hv_NoModule : vs_NoModule[2]? = some (.str file_NoModule tf_NoModule))
    (hf_NoModule : (mainFile == file_NoModule) = true)
    (ce_NoModule : K.lookup cc_NoModule = some ⟨cl_NoModule, cld_NoModule, .cell (some (.ref C_NoModule)), csl_NoModule⟩)
    (su_NoModule : PySem.W.ks_superIn K C_NoModule C_NoModule "__init__" = some (some (.builtin "ValueError.__init__")))
    (se_NoModule : PySem.W.mroIn K C_NoModule (.ref C_NoModule) = some true)
    (op_NoModule : PySem.W.nsIn K cStatics "thirdparty.any" = some none)
    (ve_NoModule : PySem.W.subIn K (.ref C_NoModule) (.type "ValueError") = some true)
    (a_NoDefinition : PySem.W.nsIn K mainGlobals "NoDefinition" = some (some (.ref C_NoDefinition)))
    (ga_NoDefinition : PySem.W.findIn K (.ref C_NoDefinition) "__getattribute__" = some (some (.builtin "BaseException.__getattribute__")))
    (gg_NoDefinition : PySem.W.findIn K (.ref C_NoDefinition) "__getattr__" = some none)
    (ex_NoDefinition : PySem.W.subIn K (.ref C_NoDefinition) (.type "BaseException") = some true)
    (hd_NoDefinition : PySem.W.hasDictIn K C_NoDefinition = true)
    (ih_NoDefinition : PySem.W.findIn K (.ref C_NoDefinition) "__class__" = some (some (.builtin "object.__class__")))
    (in_NoDefinition : PySem.W.specialIn K (.builtin "object.__class__") "__get__" = some (some (.builtin "getset_descriptor.__get__")))
    (it_NoDefinition : PySem.W.takesIn K (.builtin "object.__class__") = some true)
    (im_NoDefinition : PySem.W.mroIn K C_NoDefinition (.type "object") = some true)
    (ty_NoDefinition : PySem.W.typeIn K (.ref C_NoDefinition) = some (.type "type"))
    (kc_NoDefinition : PySem.W.keepIn K (.ref C_NoDefinition) = true)
    (sb_NoDefinition : PySem.W.subIn K (.ref C_NoDefinition) (.ref C_SpareError) = some true)
    (kl_NoDefinition : PySem.W.clsIn K C_NoDefinition = some kd_NoDefinition)
    (kr_NoDefinition : kd_NoDefinition.mro = [.ref C_NoDefinition, .ref C_SpareError, .type "ValueError", .type "Exception", .type "BaseException", .type "object"])
    (xl_NoDefinition : K.lookup C_NoDefinition = some (excClassObj nm_NoDefinition q_NoDefinition C_NoDefinition N_NoDefinition bs_NoDefinition bm_NoDefinition true sn_NoDefinition sub_NoDefinition ab_NoDefinition col_NoDefinition dd_NoDefinition k0_NoDefinition k1_NoDefinition k2_NoDefinition k3_NoDefinition k5_NoDefinition "ValueError.__new__"))
    (rv_NoDefinition : PySem.HandSPX.refsVE bm_NoDefinition = true)
    (sa_NoDefinition : PySem.W.findIn K (.ref C_NoDefinition) "__setattr__" = some (some (.builtin "object.__setattr__")))
    (no_path_NoDefinition : PySem.W.findIn K (.ref C_NoDefinition) "path" = some none)
    (ai_NoDefinition : PySem.W.findIn K (.ref C_NoDefinition) "__init__" = some (some (.ref fI_NoDefinition)))
    (ti_NoDefinition : PySem.W.typeIn K (.ref fI_NoDefinition) = some (.type "function"))
    (li_NoDefinition : K.lookup fI_NoDefinition = some ⟨oc_NoDefinition, od_NoDefinition, .func (PySem.W.ksFn "__init__" "NoDefinition.__init__" (defArgs s_NoDefinition_init) (defBody s_NoDefinition_init) (defScope s_NoDefinition_init) .none kV_NoDefinition doc_NoDefinition pm_NoDefinition an_NoDefinition (.ref cda_NoDefinition) ct_NoDefinition cc_NoDefinition), osl_NoDefinition⟩)
    (ci_NoDefinition : PySem.W.codeIn K (.ref cda_NoDefinition) "NoDefinition.__init__" = true)
    (lc_NoDefinition : K.lookup cda_NoDefinition = some ⟨ccl_NoDefinition, cdd_NoDefinition, .fields vs_NoDefinition, ccs_NoDefinition⟩)
    (hv_NoDefinition : vs_NoDefinition[2]? = some (.str file_NoDefinition tf_NoDefinition))
    (hf_NoDefinition : (mainFile == file_NoDefinition) = true)
    (ce_NoDefinition : K.lookup cc_NoDefinition = some ⟨cl_NoDefinition, cld_NoDefinition, .cell (some (.ref C_NoDefinition)), csl_NoDefinition⟩)
    (su_NoDefinition : PySem.W.ks_superIn K C_NoDefinition C_NoDefinition "__init__" = some (some (.builtin "ValueError.__init__")))
    (se_NoDefinition : PySem.W.mroIn K C_NoDefinition (.ref C_NoDefinition) = some true)
    (op_NoDefinition : PySem.W.nsIn K cStatics "thirdparty.any" = some none)
    (ve_NoDefinition : PySem.W.subIn K (.ref C_NoDefinition) (.type "ValueError") = some true)
    (a_Used : PySem.W.nsIn K mainGlobals "Used" = some (some (.ref C_Used)))
    (ga_Used : PySem.W.findIn K (.ref C_Used) "__getattribute__" = some (some (.builtin "BaseException.__getattribute__")))
    (gg_Used : PySem.W.findIn K (.ref C_Used) "__getattr__" = some none)
    (ex_Used : PySem.W.subIn K (.ref C_Used) (.type "BaseException") = some true)
    (hd_Used : PySem.W.hasDictIn K C_Used = true)
    (ih_Used : PySem.W.findIn K (.ref C_Used) "__class__" = some (some (.builtin "object.__class__")))
    (in_Used : PySem.W.specialIn K (.builtin "object.__class__") "__get__" = some (some (.builtin "getset_descriptor.__get__")))
    (it_Used : PySem.W.takesIn K (.builtin "object.__class__") = some true)
    (im_Used : PySem.W.mroIn K C_Used (.type "object") = some true)
    (ty_Used : PySem.W.typeIn K (.ref C_Used) = some (.type "type"))
    (kc_Used : PySem.W.keepIn K (.ref C_Used) = true)
    (sb_Used : PySem.W.subIn K (.ref C_Used) (.ref C_SpareError) = some true)
    (kl_Used : PySem.W.clsIn K C_Used = some kd_Used)
    (kr_Used : kd_Used.mro = [.ref C_Used, .ref C_SpareError, .type "ValueError", .type "Exception", .type "BaseException", .type "object"])
    (xl_Used : K.lookup C_Used = some (excClassObj nm_Used q_Used C_Used N_Used bs_Used bm_Used true sn_Used sub_Used ab_Used col_Used dd_Used k0_Used k1_Used k2_Used k3_Used k5_Used "ValueError.__new__"))
    (rv_Used : PySem.HandSPX.refsVE bm_Used = true)
    (sa_Used : PySem.W.findIn K (.ref C_Used) "__setattr__" = some (some (.builtin "object.__setattr__")))
    (no_path_Used : PySem.W.findIn K (.ref C_Used) "path" = some none)
    (ai_Used : PySem.W.findIn K (.ref C_Used) "__init__" = some (some (.ref fI_Used)))
    (ti_Used : PySem.W.typeIn K (.ref fI_Used) = some (.type "function"))
    (li_Used : K.lookup fI_Used = some ⟨oc_Used, od_Used, .func (PySem.W.ksFn "__init__" "Used.__init__" (defArgs s_Used_init) (defBody s_Used_init) (defScope s_Used_init) .none kV_Used doc_Used pm_Used an_Used (.ref cda_Used) ct_Used cc_Used), osl_Used⟩)
    (ci_Used : PySem.W.codeIn K (.ref cda_Used) "Used.__init__" = true)
    (lc_Used : K.lookup cda_Used = some ⟨ccl_Used, cdd_Used, .fields vs_Used, ccs_Used⟩)
    (hv_Used : vs_Used[2]? = some (.str file_Used tf_Used))
    (hf_Used : (mainFile == file_Used) = true)
    (ce_Used : K.lookup cc_Used = some ⟨cl_Used, cld_Used, .cell (some (.ref C_Used)), csl_Used⟩)
    (su_Used : PySem.W.ks_superIn K C_Used C_Used "__init__" = some (some (.builtin "ValueError.__init__")))
    (se_Used : PySem.W.mroIn K C_Used (.ref C_Used) = some true)
    (op_Used : PySem.W.nsIn K cStatics "thirdparty.any" = some none)
    (ve_Used : PySem.W.subIn K (.ref C_Used) (.type "ValueError") = some true)
    (a_BadModule : PySem.W.nsIn K mainGlobals "BadModule" = some (some (.ref C_BadModule)))
    (ga_BadModule : PySem.W.findIn K (.ref C_BadModule) "__getattribute__" = some (some (.builtin "BaseException.__getattribute__")))
    (gg_BadModule : PySem.W.findIn K (.ref C_BadModule) "__getattr__" = some none)
    (ex_BadModule : PySem.W.subIn K (.ref C_BadModule) (.type "BaseException") = some true)
    (hd_BadModule : PySem.W.hasDictIn K C_BadModule = true)
    (ih_BadModule : PySem.W.findIn K (.ref C_BadModule) "__class__" = some (some (.builtin "object.__class__")))
    (in_BadModule : PySem.W.specialIn K (.builtin "object.__class__") "__get__" = some (some (.builtin "getset_descriptor.__get__")))
    (it_BadModule : PySem.W.takesIn K (.builtin "object.__class__") = some true)
    (im_BadModule : PySem.W.mroIn K C_BadModule (.type "object") = some true)
    (ty_BadModule : PySem.W.typeIn K (.ref C_BadModule) = some (.type "type"))
    (kc_BadModule : PySem.W.keepIn K (.ref C_BadModule) = true)
    (sb_BadModule : PySem.W.subIn K (.ref C_BadModule) (.ref C_SpareError) = some true)
    (kl_BadModule : PySem.W.clsIn K C_BadModule = some kd_BadModule)
    (kr_BadModule : kd_BadModule.mro = [.ref C_BadModule, .ref C_SpareError, .type "ValueError", .type "Exception", .type "BaseException", .type "object"])
    (xl_BadModule : K.lookup C_BadModule = some (excClassObj nm_BadModule q_BadModule C_BadModule N_BadModule bs_BadModule bm_BadModule true sn_BadModule sub_BadModule ab_BadModule col_BadModule dd_BadModule k0_BadModule k1_BadModule k2_BadModule k3_BadModule k5_BadModule "ValueError.__new__"))
    (rv_BadModule : PySem.HandSPX.refsVE bm_BadModule = true)
    (sa_BadModule : PySem.W.findIn K (.ref C_BadModule) "__setattr__" = some (some (.builtin "object.__setattr__")))
    (no_name_BadModule : PySem.W.findIn K (.ref C_BadModule) "name" = some none)
    (no_line_BadModule : PySem.W.findIn K (.ref C_BadModule) "line" = some none)
    (ai_BadModule : PySem.W.findIn K (.ref C_BadModule) "__init__" = some (some (.ref fI_BadModule)))
    (ti_BadModule : PySem.W.typeIn K (.ref fI_BadModule) = some (.type "function"))
    (li_BadModule : K.lookup fI_BadModule = some ⟨oc_BadModule, od_BadModule, .func (PySem.W.ksFn "__init__" "BadModule.__init__" (defArgs s_BadModule_init) (defBody s_BadModule_init) (defScope s_BadModule_init) .none kV_BadModule doc_BadModule pm_BadModule an_BadModule (.ref cda_BadModule) ct_BadModule cc_BadModule), osl_BadModule⟩)
    (ci_BadModule : PySem.W.codeIn K (.ref cda_BadModule) "BadModule.__init__" = true)
    (lc_BadModule : K.lookup cda_BadModule = some ⟨ccl_BadModule, cdd_BadModule, .fields vs_BadModule, ccs_BadModule⟩)
    (hv_BadModule : vs_BadModule[2]? = some (.str file_BadModule tf_BadModule))
    (hf_BadModule : (mainFile == file_BadModule) = true)
    (ce_BadModule : K.lookup cc_BadModule = some ⟨cl_BadModule, cld_BadModule, .cell (some (.ref C_BadModule)), csl_BadModule⟩)
    (su_BadModule : PySem.W.ks_superIn K C_BadModule C_BadModule "__init__" = some (some (.builtin "ValueError.__init__")))
    (se_BadModule : PySem.W.mroIn K C_BadModule (.ref C_BadModule) = some true)
    (op_BadModule : PySem.W.nsIn K cStatics "thirdparty.any" = some none)
    (ve_BadModule : PySem.W.subIn K (.ref C_BadModule) (.type "ValueError") = some true)
    (a_BadTree : PySem.W.nsIn K mainGlobals "BadTree" = some (some (.ref C_BadTree)))
    (ga_BadTree : PySem.W.findIn K (.ref C_BadTree) "__getattribute__" = some (some (.builtin "BaseException.__getattribute__")))
    (gg_BadTree : PySem.W.findIn K (.ref C_BadTree) "__getattr__" = some none)
    (ex_BadTree : PySem.W.subIn K (.ref C_BadTree) (.type "BaseException") = some true)
    (hd_BadTree : PySem.W.hasDictIn K C_BadTree = true)
    (ih_BadTree : PySem.W.findIn K (.ref C_BadTree) "__class__" = some (some (.builtin "object.__class__")))
    (in_BadTree : PySem.W.specialIn K (.builtin "object.__class__") "__get__" = some (some (.builtin "getset_descriptor.__get__")))
    (it_BadTree : PySem.W.takesIn K (.builtin "object.__class__") = some true)
    (im_BadTree : PySem.W.mroIn K C_BadTree (.type "object") = some true)
    (ty_BadTree : PySem.W.typeIn K (.ref C_BadTree) = some (.type "type"))
    (kc_BadTree : PySem.W.keepIn K (.ref C_BadTree) = true)
    (sb_BadTree : PySem.W.subIn K (.ref C_BadTree) (.ref C_SpareError) = some true)
    (kl_BadTree : PySem.W.clsIn K C_BadTree = some kd_BadTree)
    (kr_BadTree : kd_BadTree.mro = [.ref C_BadTree, .ref C_SpareError, .type "ValueError", .type "Exception", .type "BaseException", .type "object"])
    (xi_BadTree : PySem.W.excIn K C_BadTree [.type "ValueError", .type "Exception", .type "BaseException", .type "object"] "ValueError.__new__" = true)
    (a_BadStart : PySem.W.nsIn K mainGlobals "BadStart" = some (some (.ref C_BadStart)))
    (ga_BadStart : PySem.W.findIn K (.ref C_BadStart) "__getattribute__" = some (some (.builtin "BaseException.__getattribute__")))
    (gg_BadStart : PySem.W.findIn K (.ref C_BadStart) "__getattr__" = some none)
    (ex_BadStart : PySem.W.subIn K (.ref C_BadStart) (.type "BaseException") = some true)
    (hd_BadStart : PySem.W.hasDictIn K C_BadStart = true)
    (ih_BadStart : PySem.W.findIn K (.ref C_BadStart) "__class__" = some (some (.builtin "object.__class__")))
    (in_BadStart : PySem.W.specialIn K (.builtin "object.__class__") "__get__" = some (some (.builtin "getset_descriptor.__get__")))
    (it_BadStart : PySem.W.takesIn K (.builtin "object.__class__") = some true)
    (im_BadStart : PySem.W.mroIn K C_BadStart (.type "object") = some true)
    (ty_BadStart : PySem.W.typeIn K (.ref C_BadStart) = some (.type "type"))
    (kc_BadStart : PySem.W.keepIn K (.ref C_BadStart) = true)
    (sb_BadStart : PySem.W.subIn K (.ref C_BadStart) (.ref C_SpareError) = some true)
    (kl_BadStart : PySem.W.clsIn K C_BadStart = some kd_BadStart)
    (kr_BadStart : kd_BadStart.mro = [.ref C_BadStart, .ref C_SpareError, .type "ValueError", .type "Exception", .type "BaseException", .type "object"])
    (xi_BadStart : PySem.W.excIn K C_BadStart [.type "ValueError", .type "Exception", .type "BaseException", .type "object"] "ValueError.__new__" = true)
    (a_BadArguments : PySem.W.nsIn K mainGlobals "BadArguments" = some (some (.ref C_BadArguments)))
    (ga_BadArguments : PySem.W.findIn K (.ref C_BadArguments) "__getattribute__" = some (some (.builtin "BaseException.__getattribute__")))
    (gg_BadArguments : PySem.W.findIn K (.ref C_BadArguments) "__getattr__" = some none)
    (ex_BadArguments : PySem.W.subIn K (.ref C_BadArguments) (.type "BaseException") = some true)
    (hd_BadArguments : PySem.W.hasDictIn K C_BadArguments = true)
    (ih_BadArguments : PySem.W.findIn K (.ref C_BadArguments) "__class__" = some (some (.builtin "object.__class__")))
    (in_BadArguments : PySem.W.specialIn K (.builtin "object.__class__") "__get__" = some (some (.builtin "getset_descriptor.__get__")))
    (it_BadArguments : PySem.W.takesIn K (.builtin "object.__class__") = some true)
    (im_BadArguments : PySem.W.mroIn K C_BadArguments (.type "object") = some true)
    (ty_BadArguments : PySem.W.typeIn K (.ref C_BadArguments) = some (.type "type"))
    (kc_BadArguments : PySem.W.keepIn K (.ref C_BadArguments) = true)
    (sb_BadArguments : PySem.W.subIn K (.ref C_BadArguments) (.ref C_SpareError) = some true)
    (kl_BadArguments : PySem.W.clsIn K C_BadArguments = some kd_BadArguments)
    (kr_BadArguments : kd_BadArguments.mro = [.ref C_BadArguments, .ref C_SpareError, .type "ValueError", .type "Exception", .type "BaseException", .type "object"])
    (xi_BadArguments : PySem.W.excIn K C_BadArguments [.type "ValueError", .type "Exception", .type "BaseException", .type "object"] "ValueError.__new__" = true)
    (a_BadLimit : PySem.W.nsIn K mainGlobals "BadLimit" = some (some (.ref C_BadLimit)))
    (ga_BadLimit : PySem.W.findIn K (.ref C_BadLimit) "__getattribute__" = some (some (.builtin "BaseException.__getattribute__")))
    (gg_BadLimit : PySem.W.findIn K (.ref C_BadLimit) "__getattr__" = some none)
    (ex_BadLimit : PySem.W.subIn K (.ref C_BadLimit) (.type "BaseException") = some true)
    (hd_BadLimit : PySem.W.hasDictIn K C_BadLimit = true)
    (ih_BadLimit : PySem.W.findIn K (.ref C_BadLimit) "__class__" = some (some (.builtin "object.__class__")))
    (in_BadLimit : PySem.W.specialIn K (.builtin "object.__class__") "__get__" = some (some (.builtin "getset_descriptor.__get__")))
    (it_BadLimit : PySem.W.takesIn K (.builtin "object.__class__") = some true)
    (im_BadLimit : PySem.W.mroIn K C_BadLimit (.type "object") = some true)
    (ty_BadLimit : PySem.W.typeIn K (.ref C_BadLimit) = some (.type "type"))
    (kc_BadLimit : PySem.W.keepIn K (.ref C_BadLimit) = true)
    (sb_BadLimit : PySem.W.subIn K (.ref C_BadLimit) (.ref C_SpareError) = some true)
    (kl_BadLimit : PySem.W.clsIn K C_BadLimit = some kd_BadLimit)
    (kr_BadLimit : kd_BadLimit.mro = [.ref C_BadLimit, .ref C_SpareError, .type "ValueError", .type "Exception", .type "BaseException", .type "object"])
    (xi_BadLimit : PySem.W.excIn K C_BadLimit [.type "ValueError", .type "Exception", .type "BaseException", .type "object"] "ValueError.__new__" = true)
    (a_BadCase : PySem.W.nsIn K mainGlobals "BadCase" = some (some (.ref C_BadCase)))
    (ga_BadCase : PySem.W.findIn K (.ref C_BadCase) "__getattribute__" = some (some (.builtin "BaseException.__getattribute__")))
    (gg_BadCase : PySem.W.findIn K (.ref C_BadCase) "__getattr__" = some none)
    (ex_BadCase : PySem.W.subIn K (.ref C_BadCase) (.type "BaseException") = some true)
    (hd_BadCase : PySem.W.hasDictIn K C_BadCase = true)
    (ih_BadCase : PySem.W.findIn K (.ref C_BadCase) "__class__" = some (some (.builtin "object.__class__")))
    (in_BadCase : PySem.W.specialIn K (.builtin "object.__class__") "__get__" = some (some (.builtin "getset_descriptor.__get__")))
    (it_BadCase : PySem.W.takesIn K (.builtin "object.__class__") = some true)
    (im_BadCase : PySem.W.mroIn K C_BadCase (.type "object") = some true)
    (ty_BadCase : PySem.W.typeIn K (.ref C_BadCase) = some (.type "type"))
    (kc_BadCase : PySem.W.keepIn K (.ref C_BadCase) = true)
    (sb_BadCase : PySem.W.subIn K (.ref C_BadCase) (.ref C_SpareError) = some true)
    (kl_BadCase : PySem.W.clsIn K C_BadCase = some kd_BadCase)
    (kr_BadCase : kd_BadCase.mro = [.ref C_BadCase, .ref C_SpareError, .type "ValueError", .type "Exception", .type "BaseException", .type "object"])
    (xi_BadCase : PySem.W.excIn K C_BadCase [.type "ValueError", .type "Exception", .type "BaseException", .type "object"] "ValueError.__new__" = true)
    (a_BadLedger : PySem.W.nsIn K mainGlobals "BadLedger" = some (some (.ref C_BadLedger)))
    (ga_BadLedger : PySem.W.findIn K (.ref C_BadLedger) "__getattribute__" = some (some (.builtin "BaseException.__getattribute__")))
    (gg_BadLedger : PySem.W.findIn K (.ref C_BadLedger) "__getattr__" = some none)
    (ex_BadLedger : PySem.W.subIn K (.ref C_BadLedger) (.type "BaseException") = some true)
    (hd_BadLedger : PySem.W.hasDictIn K C_BadLedger = true)
    (ih_BadLedger : PySem.W.findIn K (.ref C_BadLedger) "__class__" = some (some (.builtin "object.__class__")))
    (in_BadLedger : PySem.W.specialIn K (.builtin "object.__class__") "__get__" = some (some (.builtin "getset_descriptor.__get__")))
    (it_BadLedger : PySem.W.takesIn K (.builtin "object.__class__") = some true)
    (im_BadLedger : PySem.W.mroIn K C_BadLedger (.type "object") = some true)
    (ty_BadLedger : PySem.W.typeIn K (.ref C_BadLedger) = some (.type "type"))
    (kc_BadLedger : PySem.W.keepIn K (.ref C_BadLedger) = true)
    (sb_BadLedger : PySem.W.subIn K (.ref C_BadLedger) (.ref C_SpareError) = some true)
    (kl_BadLedger : PySem.W.clsIn K C_BadLedger = some kd_BadLedger)
    (kr_BadLedger : kd_BadLedger.mro = [.ref C_BadLedger, .ref C_SpareError, .type "ValueError", .type "Exception", .type "BaseException", .type "object"])
    (xi_BadLedger : PySem.W.excIn K C_BadLedger [.type "ValueError", .type "Exception", .type "BaseException", .type "object"] "ValueError.__new__" = true)
    (a_BadBeyond : PySem.W.nsIn K mainGlobals "BadBeyond" = some (some (.ref C_BadBeyond)))
    (ga_BadBeyond : PySem.W.findIn K (.ref C_BadBeyond) "__getattribute__" = some (some (.builtin "BaseException.__getattribute__")))
    (gg_BadBeyond : PySem.W.findIn K (.ref C_BadBeyond) "__getattr__" = some none)
    (ex_BadBeyond : PySem.W.subIn K (.ref C_BadBeyond) (.type "BaseException") = some true)
    (hd_BadBeyond : PySem.W.hasDictIn K C_BadBeyond = true)
    (ih_BadBeyond : PySem.W.findIn K (.ref C_BadBeyond) "__class__" = some (some (.builtin "object.__class__")))
    (in_BadBeyond : PySem.W.specialIn K (.builtin "object.__class__") "__get__" = some (some (.builtin "getset_descriptor.__get__")))
    (it_BadBeyond : PySem.W.takesIn K (.builtin "object.__class__") = some true)
    (im_BadBeyond : PySem.W.mroIn K C_BadBeyond (.type "object") = some true)
    (ty_BadBeyond : PySem.W.typeIn K (.ref C_BadBeyond) = some (.type "type"))
    (kc_BadBeyond : PySem.W.keepIn K (.ref C_BadBeyond) = true)
    (sb_BadBeyond : PySem.W.subIn K (.ref C_BadBeyond) (.ref C_SpareError) = some true)
    (kl_BadBeyond : PySem.W.clsIn K C_BadBeyond = some kd_BadBeyond)
    (kr_BadBeyond : kd_BadBeyond.mro = [.ref C_BadBeyond, .ref C_SpareError, .type "ValueError", .type "Exception", .type "BaseException", .type "object"])
    (xi_BadBeyond : PySem.W.excIn K C_BadBeyond [.type "ValueError", .type "Exception", .type "BaseException", .type "object"] "ValueError.__new__" = true)
    (a_BadRoute : PySem.W.nsIn K mainGlobals "BadRoute" = some (some (.ref C_BadRoute)))
    (ga_BadRoute : PySem.W.findIn K (.ref C_BadRoute) "__getattribute__" = some (some (.builtin "BaseException.__getattribute__")))
    (gg_BadRoute : PySem.W.findIn K (.ref C_BadRoute) "__getattr__" = some none)
    (ex_BadRoute : PySem.W.subIn K (.ref C_BadRoute) (.type "BaseException") = some true)
    (hd_BadRoute : PySem.W.hasDictIn K C_BadRoute = true)
    (ih_BadRoute : PySem.W.findIn K (.ref C_BadRoute) "__class__" = some (some (.builtin "object.__class__")))
    (in_BadRoute : PySem.W.specialIn K (.builtin "object.__class__") "__get__" = some (some (.builtin "getset_descriptor.__get__")))
    (it_BadRoute : PySem.W.takesIn K (.builtin "object.__class__") = some true)
    (im_BadRoute : PySem.W.mroIn K C_BadRoute (.type "object") = some true)
    (ty_BadRoute : PySem.W.typeIn K (.ref C_BadRoute) = some (.type "type"))
    (kc_BadRoute : PySem.W.keepIn K (.ref C_BadRoute) = true)
    (sb_BadRoute : PySem.W.subIn K (.ref C_BadRoute) (.ref C_SpareError) = some true)
    (kl_BadRoute : PySem.W.clsIn K C_BadRoute = some kd_BadRoute)
    (kr_BadRoute : kd_BadRoute.mro = [.ref C_BadRoute, .ref C_SpareError, .type "ValueError", .type "Exception", .type "BaseException", .type "object"])
    (xi_BadRoute : PySem.W.excIn K C_BadRoute [.type "ValueError", .type "Exception", .type "BaseException", .type "object"] "ValueError.__new__" = true)
    (a_BadNames : PySem.W.nsIn K mainGlobals "BadNames" = some (some (.ref C_BadNames)))
    (ga_BadNames : PySem.W.findIn K (.ref C_BadNames) "__getattribute__" = some (some (.builtin "BaseException.__getattribute__")))
    (gg_BadNames : PySem.W.findIn K (.ref C_BadNames) "__getattr__" = some none)
    (ex_BadNames : PySem.W.subIn K (.ref C_BadNames) (.type "BaseException") = some true)
    (hd_BadNames : PySem.W.hasDictIn K C_BadNames = true)
    (ih_BadNames : PySem.W.findIn K (.ref C_BadNames) "__class__" = some (some (.builtin "object.__class__")))
    (in_BadNames : PySem.W.specialIn K (.builtin "object.__class__") "__get__" = some (some (.builtin "getset_descriptor.__get__")))
    (it_BadNames : PySem.W.takesIn K (.builtin "object.__class__") = some true)
    (im_BadNames : PySem.W.mroIn K C_BadNames (.type "object") = some true)
    (ty_BadNames : PySem.W.typeIn K (.ref C_BadNames) = some (.type "type"))
    (kc_BadNames : PySem.W.keepIn K (.ref C_BadNames) = true)
    (sb_BadNames : PySem.W.subIn K (.ref C_BadNames) (.ref C_SpareError) = some true)
    (kl_BadNames : PySem.W.clsIn K C_BadNames = some kd_BadNames)
    (kr_BadNames : kd_BadNames.mro = [.ref C_BadNames, .ref C_SpareError, .type "ValueError", .type "Exception", .type "BaseException", .type "object"])
    (xi_BadNames : PySem.W.excIn K C_BadNames [.type "ValueError", .type "Exception", .type "BaseException", .type "object"] "ValueError.__new__" = true)
    (dif : [C_SpareError, C_BadPath, C_BadText, C_BadKind, C_BadAnswer, C_BadFaded, C_BadEdit, C_NoModule, C_NoDefinition, C_Used, C_BadModule, C_BadTree, C_BadStart, C_BadArguments, C_BadLimit, C_BadCase, C_BadLedger, C_BadBeyond, C_BadRoute, C_BadNames].Nodup)
    (hP : PrOk l.prog) :
    ∃ fd : FuncData, (∀ (s : Shared) (v : Value), BindsTo s fd ⟨[v], []⟩ [("_law_script", v)]) ∧ ∀ base : Heap, K.In base → base.Ns mainGlobals mg → FnG l.prog w K mg base CX0 6 fa fd ["_law_script"] (spLaw K) := by
  have e3 : fa = f_law := by
    have z := hfa.symm.trans (PySem.W.mg_of X G a_law)
    injection z with z
    injection z
  have T : Nonempty { T : Txt K mg // T.f_law = f_law ∧ T.fd_law = PySem.W.fnOf "law" "law" (defArgs s_law) (defBody s_law) (defScope s_law) .none kV_law dc_law pm_law an_law cd_law ct_law } := ⟨⟨{
    f_law_begun := f_law_begun, fd_law_begun := _, F_law_begun := fun_mk (st := s_law_begun) l_law_begun c_law_begun k_law_begun, g_law_begun := PySem.W.mg_of X G a_law_begun,
    b_law_begun := (fun_mk (st := s_law_begun) l_law_begun c_law_begun k_law_begun).binds (ps := ["_law_script"]) fun _ _ _ _ _ _ us hl => match us, hl with | [_], _ => rfl,
    f_law_mixed := f_law_mixed, fd_law_mixed := _, F_law_mixed := fun_mk (st := s_law_mixed) l_law_mixed c_law_mixed k_law_mixed, g_law_mixed := PySem.W.mg_of X G a_law_mixed,
    b_law_mixed := (fun_mk (st := s_law_mixed) l_law_mixed c_law_mixed k_law_mixed).binds (ps := ["_law_state"]) fun _ _ _ _ _ _ us hl => match us, hl with | [_], _ => rfl,
    f_law_take := f_law_take, fd_law_take := _, F_law_take := fun_mk (st := s_law_take) l_law_take c_law_take k_law_take, g_law_take := PySem.W.mg_of X G a_law_take,
    b_law_take := (fun_mk (st := s_law_take) l_law_take c_law_take k_law_take).binds (ps := ["_law_state", "_law_size"]) fun _ _ _ _ _ _ us hl => match us, hl with | [_, _], _ => rfl,
    f_law_pick := f_law_pick, fd_law_pick := _, F_law_pick := fun_mk (st := s_law_pick) l_law_pick c_law_pick k_law_pick, g_law_pick := PySem.W.mg_of X G a_law_pick,
    b_law_pick := (fun_mk (st := s_law_pick) l_law_pick c_law_pick k_law_pick).binds (ps := ["_law_state", "_law_some"]) fun _ _ _ _ _ _ us hl => match us, hl with | [_, _], _ => rfl,
    f_law_with_number := f_law_with_number, fd_law_with_number := _, F_law_with_number := fun_mk (st := s_law_with_number) l_law_with_number c_law_with_number k_law_with_number, g_law_with_number := PySem.W.mg_of X G a_law_with_number,
    b_law_with_number := (fun_mk (st := s_law_with_number) l_law_with_number c_law_with_number k_law_with_number).binds (ps := ["_law_word", "_law_worth", "_law_by_name"]) fun _ _ _ _ _ _ us hl => match us, hl with | [_, _, _], _ => rfl,
    f_law_with_thing := f_law_with_thing, fd_law_with_thing := _, F_law_with_thing := fun_mk (st := s_law_with_thing) l_law_with_thing c_law_with_thing k_law_with_thing, g_law_with_thing := PySem.W.mg_of X G a_law_with_thing,
    b_law_with_thing := (fun_mk (st := s_law_with_thing) l_law_with_thing c_law_with_thing k_law_with_thing).binds (ps := ["_law_word", "_law_worth", "_law_by_name"]) fun _ _ _ _ _ _ us hl => match us, hl with | [_, _, _], _ => rfl,
    f_law_with_message := f_law_with_message, fd_law_with_message := _, F_law_with_message := fun_mk (st := s_law_with_message) l_law_with_message c_law_with_message k_law_with_message, g_law_with_message := PySem.W.mg_of X G a_law_with_message,
    b_law_with_message := (fun_mk (st := s_law_with_message) l_law_with_message c_law_with_message k_law_with_message).binds (ps := ["_law_word"]) fun _ _ _ _ _ _ us hl => match us, hl with | [_], _ => rfl,
    f_law_raised := f_law_raised, fd_law_raised := _, F_law_raised := fun_mk (st := s_law_raised) l_law_raised c_law_raised k_law_raised, g_law_raised := PySem.W.mg_of X G a_law_raised,
    b_law_raised := (fun_mk (st := s_law_raised) l_law_raised c_law_raised k_law_raised).binds (ps := ["_law_at", "_law_worth", "_law_by_name"]) fun _ _ _ _ _ _ us hl => match us, hl with | [_, _, _], _ => rfl,
    f_law_marks := f_law_marks, fd_law_marks := _, F_law_marks := fun_mk (st := s_law_marks) l_law_marks c_law_marks k_law_marks, g_law_marks := PySem.W.mg_of X G a_law_marks,
    b_law_marks := (fun_mk (st := s_law_marks) l_law_marks c_law_marks k_law_marks).binds (ps := ["_law_error"]) fun _ _ _ _ _ _ us hl => match us, hl with | [_], _ => rfl,
    f_law_kept := f_law_kept, fd_law_kept := _, F_law_kept := fun_mk (st := s_law_kept) l_law_kept c_law_kept k_law_kept, g_law_kept := PySem.W.mg_of X G a_law_kept,
    b_law_kept := (fun_mk (st := s_law_kept) l_law_kept c_law_kept k_law_kept).binds (ps := ["_law_error", "_law_at"]) fun _ _ _ _ _ _ us hl => match us, hl with | [_, _], _ => rfl,
    f_law := f_law, fd_law := _, F_law := fun_mk (st := s_law) l_law c_law k_law, g_law := PySem.W.mg_of X G a_law,
    b_law := (fun_mk (st := s_law) l_law c_law k_law).binds (ps := ["_law_script"]) fun _ _ _ _ _ _ us hl => match us, hl with | [_], _ => rfl,
    z_super := PySem.W.mg_none_of X G z_super,
    z_list := PySem.W.mg_none_of X G z_list,
    z_int := PySem.W.mg_none_of X G z_int,
    z_len := PySem.W.mg_none_of X G z_len,
    z_isinstance := PySem.W.mg_none_of X G z_isinstance,
    z_range := PySem.W.mg_none_of X G z_range,
    z_min := PySem.W.mg_none_of X G z_min,
    z_repr := PySem.W.mg_none_of X G z_repr,
    z_ValueError := PySem.W.mg_none_of X G z_ValueError,
    C_SpareError := C_SpareError, gC_SpareError := PySem.W.mg_of X G a_SpareError, x_SpareError := ⟨ga_SpareError, gg_SpareError, ex_SpareError, hd_SpareError, ih_SpareError, in_SpareError, it_SpareError, im_SpareError⟩, xf_SpareError := ⟨ga_SpareError, gg_SpareError, ex_SpareError, hd_SpareError⟩, kC_SpareError := kc_SpareError, ty_SpareError := ty_SpareError,
    m_SpareError := PySem.W.exm_ref ex_SpareError hd_SpareError ty_SpareError sb_SpareError,
    mr_BadPath := ⟨kd_BadPath, kl_BadPath, kr_BadPath⟩,
    C_BadPath := C_BadPath, gC_BadPath := PySem.W.mg_of X G a_BadPath, x_BadPath := ⟨ga_BadPath, gg_BadPath, ex_BadPath, hd_BadPath, ih_BadPath, in_BadPath, it_BadPath, im_BadPath⟩, xf_BadPath := ⟨ga_BadPath, gg_BadPath, ex_BadPath, hd_BadPath⟩, kC_BadPath := kc_BadPath, ty_BadPath := ty_BadPath,
    m_BadPath := PySem.W.exm_ref ex_SpareError hd_SpareError ty_SpareError sb_BadPath,
    fI_BadPath := fI_BadPath,
    no_BadPath_k := no_k_BadPath,
    e_BadPath := fun P hP => { g := PySem.W.mg_of X G a_BadPath, O := ⟨⟨nm_BadPath, q_BadPath, N_BadPath, bs_BadPath, bm_BadPath, sn_BadPath, sub_BadPath, ab_BadPath, col_BadPath, dd_BadPath, k0_BadPath, k1_BadPath, k2_BadPath, k3_BadPath, k5_BadPath, xl_BadPath, rv_BadPath⟩, sa_BadPath, ex_BadPath, ty_BadPath, kc_BadPath⟩, S := ⟨⟨_, _, _, _, _, _, _, _, _, _, _, _, _, _, _, _, _, file_BadPath, _, li_BadPath, ci_BadPath, lc_BadPath, hv_BadPath, by rw [hP.1]; exact hf_BadPath, ce_BadPath⟩, hP.2, su_BadPath, se_BadPath, op_BadPath, ve_BadPath⟩, T := tx_BadPath, no := no_k_BadPath, iC := ai_BadPath, tI := ti_BadPath, b := fun _ _ _ _ _ _ _ _ _ _ => .of_eq rfl, su := PySem.W.mg_none_of X G z_super },
    mr_BadText := ⟨kd_BadText, kl_BadText, kr_BadText⟩,
    C_BadText := C_BadText, gC_BadText := PySem.W.mg_of X G a_BadText, x_BadText := ⟨ga_BadText, gg_BadText, ex_BadText, hd_BadText, ih_BadText, in_BadText, it_BadText, im_BadText⟩, xf_BadText := ⟨ga_BadText, gg_BadText, ex_BadText, hd_BadText⟩, kC_BadText := kc_BadText, ty_BadText := ty_BadText,
    m_BadText := PySem.W.exm_ref ex_SpareError hd_SpareError ty_SpareError sb_BadText,
    fI_BadText := fI_BadText,
    no_BadText_line := no_line_BadText,
    e_BadText := fun P hP => { g := PySem.W.mg_of X G a_BadText, O := ⟨⟨nm_BadText, q_BadText, N_BadText, bs_BadText, bm_BadText, sn_BadText, sub_BadText, ab_BadText, col_BadText, dd_BadText, k0_BadText, k1_BadText, k2_BadText, k3_BadText, k5_BadText, xl_BadText, rv_BadText⟩, sa_BadText, ex_BadText, ty_BadText, kc_BadText⟩, S := ⟨⟨_, _, _, _, _, _, _, _, _, _, _, _, _, _, _, _, _, file_BadText, _, li_BadText, ci_BadText, lc_BadText, hv_BadText, by rw [hP.1]; exact hf_BadText, ce_BadText⟩, hP.2, su_BadText, se_BadText, op_BadText, ve_BadText⟩, T := tx_BadText, no := no_line_BadText, iC := ai_BadText, tI := ti_BadText, b := fun _ _ _ _ _ _ _ _ _ _ => .of_eq rfl, su := PySem.W.mg_none_of X G z_super },
    mr_BadKind := ⟨kd_BadKind, kl_BadKind, kr_BadKind⟩,
    C_BadKind := C_BadKind, gC_BadKind := PySem.W.mg_of X G a_BadKind, x_BadKind := ⟨ga_BadKind, gg_BadKind, ex_BadKind, hd_BadKind, ih_BadKind, in_BadKind, it_BadKind, im_BadKind⟩, xf_BadKind := ⟨ga_BadKind, gg_BadKind, ex_BadKind, hd_BadKind⟩, kC_BadKind := kc_BadKind, ty_BadKind := ty_BadKind,
    m_BadKind := PySem.W.exm_ref ex_SpareError hd_SpareError ty_SpareError sb_BadKind,
    fI_BadKind := fI_BadKind,
    no_BadKind_k := no_k_BadKind,
    e_BadKind := fun P hP => { g := PySem.W.mg_of X G a_BadKind, O := ⟨⟨nm_BadKind, q_BadKind, N_BadKind, bs_BadKind, bm_BadKind, sn_BadKind, sub_BadKind, ab_BadKind, col_BadKind, dd_BadKind, k0_BadKind, k1_BadKind, k2_BadKind, k3_BadKind, k5_BadKind, xl_BadKind, rv_BadKind⟩, sa_BadKind, ex_BadKind, ty_BadKind, kc_BadKind⟩, S := ⟨⟨_, _, _, _, _, _, _, _, _, _, _, _, _, _, _, _, _, file_BadKind, _, li_BadKind, ci_BadKind, lc_BadKind, hv_BadKind, by rw [hP.1]; exact hf_BadKind, ce_BadKind⟩, hP.2, su_BadKind, se_BadKind, op_BadKind, ve_BadKind⟩, T := tx_BadKind, no := no_k_BadKind, iC := ai_BadKind, tI := ti_BadKind, b := fun _ _ _ _ _ _ _ _ _ _ => .of_eq rfl, su := PySem.W.mg_none_of X G z_super },
    mr_BadAnswer := ⟨kd_BadAnswer, kl_BadAnswer, kr_BadAnswer⟩,
    C_BadAnswer := C_BadAnswer, gC_BadAnswer := PySem.W.mg_of X G a_BadAnswer, x_BadAnswer := ⟨ga_BadAnswer, gg_BadAnswer, ex_BadAnswer, hd_BadAnswer, ih_BadAnswer, in_BadAnswer, it_BadAnswer, im_BadAnswer⟩, xf_BadAnswer := ⟨ga_BadAnswer, gg_BadAnswer, ex_BadAnswer, hd_BadAnswer⟩, kC_BadAnswer := kc_BadAnswer, ty_BadAnswer := ty_BadAnswer,
    m_BadAnswer := PySem.W.exm_ref ex_SpareError hd_SpareError ty_SpareError sb_BadAnswer,
    fI_BadAnswer := fI_BadAnswer,
    no_BadAnswer_k := no_k_BadAnswer,
    e_BadAnswer := fun P hP => { g := PySem.W.mg_of X G a_BadAnswer, O := ⟨⟨nm_BadAnswer, q_BadAnswer, N_BadAnswer, bs_BadAnswer, bm_BadAnswer, sn_BadAnswer, sub_BadAnswer, ab_BadAnswer, col_BadAnswer, dd_BadAnswer, k0_BadAnswer, k1_BadAnswer, k2_BadAnswer, k3_BadAnswer, k5_BadAnswer, xl_BadAnswer, rv_BadAnswer⟩, sa_BadAnswer, ex_BadAnswer, ty_BadAnswer, kc_BadAnswer⟩, S := ⟨⟨_, _, _, _, _, _, _, _, _, _, _, _, _, _, _, _, _, file_BadAnswer, _, li_BadAnswer, ci_BadAnswer, lc_BadAnswer, hv_BadAnswer, by rw [hP.1]; exact hf_BadAnswer, ce_BadAnswer⟩, hP.2, su_BadAnswer, se_BadAnswer, op_BadAnswer, ve_BadAnswer⟩, T := tx_BadAnswer, no := no_k_BadAnswer, iC := ai_BadAnswer, tI := ti_BadAnswer, b := fun _ _ _ _ _ _ _ _ _ _ => .of_eq rfl, su := PySem.W.mg_none_of X G z_super },
    mr_BadFaded := ⟨kd_BadFaded, kl_BadFaded, kr_BadFaded⟩,
    C_BadFaded := C_BadFaded, gC_BadFaded := PySem.W.mg_of X G a_BadFaded, x_BadFaded := ⟨ga_BadFaded, gg_BadFaded, ex_BadFaded, hd_BadFaded, ih_BadFaded, in_BadFaded, it_BadFaded, im_BadFaded⟩, xf_BadFaded := ⟨ga_BadFaded, gg_BadFaded, ex_BadFaded, hd_BadFaded⟩, kC_BadFaded := kc_BadFaded, ty_BadFaded := ty_BadFaded,
    m_BadFaded := PySem.W.exm_ref ex_SpareError hd_SpareError ty_SpareError sb_BadFaded,
    fI_BadFaded := fI_BadFaded,
    no_BadFaded_k := no_k_BadFaded,
    e_BadFaded := fun P hP => { g := PySem.W.mg_of X G a_BadFaded, O := ⟨⟨nm_BadFaded, q_BadFaded, N_BadFaded, bs_BadFaded, bm_BadFaded, sn_BadFaded, sub_BadFaded, ab_BadFaded, col_BadFaded, dd_BadFaded, k0_BadFaded, k1_BadFaded, k2_BadFaded, k3_BadFaded, k5_BadFaded, xl_BadFaded, rv_BadFaded⟩, sa_BadFaded, ex_BadFaded, ty_BadFaded, kc_BadFaded⟩, S := ⟨⟨_, _, _, _, _, _, _, _, _, _, _, _, _, _, _, _, _, file_BadFaded, _, li_BadFaded, ci_BadFaded, lc_BadFaded, hv_BadFaded, by rw [hP.1]; exact hf_BadFaded, ce_BadFaded⟩, hP.2, su_BadFaded, se_BadFaded, op_BadFaded, ve_BadFaded⟩, T := tx_BadFaded, no := no_k_BadFaded, iC := ai_BadFaded, tI := ti_BadFaded, b := fun _ _ _ _ _ _ _ _ _ _ => .of_eq rfl, su := PySem.W.mg_none_of X G z_super },
    mr_BadEdit := ⟨kd_BadEdit, kl_BadEdit, kr_BadEdit⟩,
    C_BadEdit := C_BadEdit, gC_BadEdit := PySem.W.mg_of X G a_BadEdit, x_BadEdit := ⟨ga_BadEdit, gg_BadEdit, ex_BadEdit, hd_BadEdit, ih_BadEdit, in_BadEdit, it_BadEdit, im_BadEdit⟩, xf_BadEdit := ⟨ga_BadEdit, gg_BadEdit, ex_BadEdit, hd_BadEdit⟩, kC_BadEdit := kc_BadEdit, ty_BadEdit := ty_BadEdit,
    m_BadEdit := PySem.W.exm_ref ex_SpareError hd_SpareError ty_SpareError sb_BadEdit,
    fI_BadEdit := fI_BadEdit,
    no_BadEdit_k := no_k_BadEdit,
    e_BadEdit := fun P hP => { g := PySem.W.mg_of X G a_BadEdit, O := ⟨⟨nm_BadEdit, q_BadEdit, N_BadEdit, bs_BadEdit, bm_BadEdit, sn_BadEdit, sub_BadEdit, ab_BadEdit, col_BadEdit, dd_BadEdit, k0_BadEdit, k1_BadEdit, k2_BadEdit, k3_BadEdit, k5_BadEdit, xl_BadEdit, rv_BadEdit⟩, sa_BadEdit, ex_BadEdit, ty_BadEdit, kc_BadEdit⟩, S := ⟨⟨_, _, _, _, _, _, _, _, _, _, _, _, _, _, _, _, _, file_BadEdit, _, li_BadEdit, ci_BadEdit, lc_BadEdit, hv_BadEdit, by rw [hP.1]; exact hf_BadEdit, ce_BadEdit⟩, hP.2, su_BadEdit, se_BadEdit, op_BadEdit, ve_BadEdit⟩, T := tx_BadEdit, no := no_k_BadEdit, iC := ai_BadEdit, tI := ti_BadEdit, b := fun _ _ _ _ _ _ _ _ _ _ => .of_eq rfl, su := PySem.W.mg_none_of X G z_super },
    mr_NoModule := ⟨kd_NoModule, kl_NoModule, kr_NoModule⟩,
    C_NoModule := C_NoModule, gC_NoModule := PySem.W.mg_of X G a_NoModule, x_NoModule := ⟨ga_NoModule, gg_NoModule, ex_NoModule, hd_NoModule, ih_NoModule, in_NoModule, it_NoModule, im_NoModule⟩, xf_NoModule := ⟨ga_NoModule, gg_NoModule, ex_NoModule, hd_NoModule⟩, kC_NoModule := kc_NoModule, ty_NoModule := ty_NoModule,
    m_NoModule := PySem.W.exm_ref ex_SpareError hd_SpareError ty_SpareError sb_NoModule,
    fI_NoModule := fI_NoModule,
    no_NoModule_name := no_name_NoModule,
    e_NoModule := fun P hP => { g := PySem.W.mg_of X G a_NoModule, O := ⟨⟨nm_NoModule, q_NoModule, N_NoModule, bs_NoModule, bm_NoModule, sn_NoModule, sub_NoModule, ab_NoModule, col_NoModule, dd_NoModule, k0_NoModule, k1_NoModule, k2_NoModule, k3_NoModule, k5_NoModule, xl_NoModule, rv_NoModule⟩, sa_NoModule, ex_NoModule, ty_NoModule, kc_NoModule⟩, S := ⟨⟨_, _, _, _, _, _, _, _, _, _, _, _, _, _, _, _, _, file_NoModule, _, li_NoModule, ci_NoModule, lc_NoModule, hv_NoModule, by rw [hP.1]; exact hf_NoModule, ce_NoModule⟩, hP.2, su_NoModule, se_NoModule, op_NoModule, ve_NoModule⟩, T := tx_NoModule, no := no_name_NoModule, iC := ai_NoModule, tI := ti_NoModule, b := fun _ _ _ _ _ _ _ _ _ _ => .of_eq rfl, su := PySem.W.mg_none_of X G z_super },
    mr_NoDefinition := ⟨kd_NoDefinition, kl_NoDefinition, kr_NoDefinition⟩,
    C_NoDefinition := C_NoDefinition, gC_NoDefinition := PySem.W.mg_of X G a_NoDefinition, x_NoDefinition := ⟨ga_NoDefinition, gg_NoDefinition, ex_NoDefinition, hd_NoDefinition, ih_NoDefinition, in_NoDefinition, it_NoDefinition, im_NoDefinition⟩, xf_NoDefinition := ⟨ga_NoDefinition, gg_NoDefinition, ex_NoDefinition, hd_NoDefinition⟩, kC_NoDefinition := kc_NoDefinition, ty_NoDefinition := ty_NoDefinition,
    m_NoDefinition := PySem.W.exm_ref ex_SpareError hd_SpareError ty_SpareError sb_NoDefinition,
    fI_NoDefinition := fI_NoDefinition,
    no_NoDefinition_path := no_path_NoDefinition,
    e_NoDefinition := fun P hP => { g := PySem.W.mg_of X G a_NoDefinition, O := ⟨⟨nm_NoDefinition, q_NoDefinition, N_NoDefinition, bs_NoDefinition, bm_NoDefinition, sn_NoDefinition, sub_NoDefinition, ab_NoDefinition, col_NoDefinition, dd_NoDefinition, k0_NoDefinition, k1_NoDefinition, k2_NoDefinition, k3_NoDefinition, k5_NoDefinition, xl_NoDefinition, rv_NoDefinition⟩, sa_NoDefinition, ex_NoDefinition, ty_NoDefinition, kc_NoDefinition⟩, S := ⟨⟨_, _, _, _, _, _, _, _, _, _, _, _, _, _, _, _, _, file_NoDefinition, _, li_NoDefinition, ci_NoDefinition, lc_NoDefinition, hv_NoDefinition, by rw [hP.1]; exact hf_NoDefinition, ce_NoDefinition⟩, hP.2, su_NoDefinition, se_NoDefinition, op_NoDefinition, ve_NoDefinition⟩, T := tx_NoDefinition, no := no_path_NoDefinition, iC := ai_NoDefinition, tI := ti_NoDefinition, b := fun _ _ _ _ _ _ _ _ _ _ => .of_eq rfl, su := PySem.W.mg_none_of X G z_super },
    mr_Used := ⟨kd_Used, kl_Used, kr_Used⟩,
    C_Used := C_Used, gC_Used := PySem.W.mg_of X G a_Used, x_Used := ⟨ga_Used, gg_Used, ex_Used, hd_Used, ih_Used, in_Used, it_Used, im_Used⟩, xf_Used := ⟨ga_Used, gg_Used, ex_Used, hd_Used⟩, kC_Used := kc_Used, ty_Used := ty_Used,
    m_Used := PySem.W.exm_ref ex_SpareError hd_SpareError ty_SpareError sb_Used,
    fI_Used := fI_Used,
    no_Used_path := no_path_Used,
    e_Used := fun P hP => { g := PySem.W.mg_of X G a_Used, O := ⟨⟨nm_Used, q_Used, N_Used, bs_Used, bm_Used, sn_Used, sub_Used, ab_Used, col_Used, dd_Used, k0_Used, k1_Used, k2_Used, k3_Used, k5_Used, xl_Used, rv_Used⟩, sa_Used, ex_Used, ty_Used, kc_Used⟩, S := ⟨⟨_, _, _, _, _, _, _, _, _, _, _, _, _, _, _, _, _, file_Used, _, li_Used, ci_Used, lc_Used, hv_Used, by rw [hP.1]; exact hf_Used, ce_Used⟩, hP.2, su_Used, se_Used, op_Used, ve_Used⟩, T := tx_Used, no := no_path_Used, iC := ai_Used, tI := ti_Used, b := fun _ _ _ _ _ _ _ _ _ _ => .of_eq rfl, su := PySem.W.mg_none_of X G z_super },
    mr_BadModule := ⟨kd_BadModule, kl_BadModule, kr_BadModule⟩,
    C_BadModule := C_BadModule, gC_BadModule := PySem.W.mg_of X G a_BadModule, x_BadModule := ⟨ga_BadModule, gg_BadModule, ex_BadModule, hd_BadModule, ih_BadModule, in_BadModule, it_BadModule, im_BadModule⟩, xf_BadModule := ⟨ga_BadModule, gg_BadModule, ex_BadModule, hd_BadModule⟩, kC_BadModule := kc_BadModule, ty_BadModule := ty_BadModule,
    m_BadModule := PySem.W.exm_ref ex_SpareError hd_SpareError ty_SpareError sb_BadModule,
    fI_BadModule := fI_BadModule,
    no_BadModule_name := no_name_BadModule,
    no_BadModule_line := no_line_BadModule,
    e_BadModule := fun P hP => { g := PySem.W.mg_of X G a_BadModule, O := ⟨⟨nm_BadModule, q_BadModule, N_BadModule, bs_BadModule, bm_BadModule, sn_BadModule, sub_BadModule, ab_BadModule, col_BadModule, dd_BadModule, k0_BadModule, k1_BadModule, k2_BadModule, k3_BadModule, k5_BadModule, xl_BadModule, rv_BadModule⟩, sa_BadModule, ex_BadModule, ty_BadModule, kc_BadModule⟩, S := ⟨⟨_, _, _, _, _, _, _, _, _, _, _, _, _, _, _, _, _, file_BadModule, _, li_BadModule, ci_BadModule, lc_BadModule, hv_BadModule, by rw [hP.1]; exact hf_BadModule, ce_BadModule⟩, hP.2, su_BadModule, se_BadModule, op_BadModule, ve_BadModule⟩, T := tx_BadModule, no := no_name_BadModule, no2 := no_line_BadModule, iC := ai_BadModule, tI := ti_BadModule, b := fun _ _ _ _ _ _ _ _ _ _ _ => .of_eq rfl, su := PySem.W.mg_none_of X G z_super },
    mr_BadTree := ⟨kd_BadTree, kl_BadTree, kr_BadTree⟩,
    C_BadTree := C_BadTree, gC_BadTree := PySem.W.mg_of X G a_BadTree, x_BadTree := ⟨ga_BadTree, gg_BadTree, ex_BadTree, hd_BadTree, ih_BadTree, in_BadTree, it_BadTree, im_BadTree⟩, xf_BadTree := ⟨ga_BadTree, gg_BadTree, ex_BadTree, hd_BadTree⟩, kC_BadTree := kc_BadTree, ty_BadTree := ty_BadTree,
    m_BadTree := PySem.W.exm_ref ex_SpareError hd_SpareError ty_SpareError sb_BadTree,
    xi_BadTree := xi_BadTree,
    mr_BadStart := ⟨kd_BadStart, kl_BadStart, kr_BadStart⟩,
    C_BadStart := C_BadStart, gC_BadStart := PySem.W.mg_of X G a_BadStart, x_BadStart := ⟨ga_BadStart, gg_BadStart, ex_BadStart, hd_BadStart, ih_BadStart, in_BadStart, it_BadStart, im_BadStart⟩, xf_BadStart := ⟨ga_BadStart, gg_BadStart, ex_BadStart, hd_BadStart⟩, kC_BadStart := kc_BadStart, ty_BadStart := ty_BadStart,
    m_BadStart := PySem.W.exm_ref ex_SpareError hd_SpareError ty_SpareError sb_BadStart,
    xi_BadStart := xi_BadStart,
    mr_BadArguments := ⟨kd_BadArguments, kl_BadArguments, kr_BadArguments⟩,
    C_BadArguments := C_BadArguments, gC_BadArguments := PySem.W.mg_of X G a_BadArguments, x_BadArguments := ⟨ga_BadArguments, gg_BadArguments, ex_BadArguments, hd_BadArguments, ih_BadArguments, in_BadArguments, it_BadArguments, im_BadArguments⟩, xf_BadArguments := ⟨ga_BadArguments, gg_BadArguments, ex_BadArguments, hd_BadArguments⟩, kC_BadArguments := kc_BadArguments, ty_BadArguments := ty_BadArguments,
    m_BadArguments := PySem.W.exm_ref ex_SpareError hd_SpareError ty_SpareError sb_BadArguments,
    xi_BadArguments := xi_BadArguments,
    mr_BadLimit := ⟨kd_BadLimit, kl_BadLimit, kr_BadLimit⟩,
    C_BadLimit := C_BadLimit, gC_BadLimit := PySem.W.mg_of X G a_BadLimit, x_BadLimit := ⟨ga_BadLimit, gg_BadLimit, ex_BadLimit, hd_BadLimit, ih_BadLimit, in_BadLimit, it_BadLimit, im_BadLimit⟩, xf_BadLimit := ⟨ga_BadLimit, gg_BadLimit, ex_BadLimit, hd_BadLimit⟩, kC_BadLimit := kc_BadLimit, ty_BadLimit := ty_BadLimit,
    m_BadLimit := PySem.W.exm_ref ex_SpareError hd_SpareError ty_SpareError sb_BadLimit,
    xi_BadLimit := xi_BadLimit,
    mr_BadCase := ⟨kd_BadCase, kl_BadCase, kr_BadCase⟩,
    C_BadCase := C_BadCase, gC_BadCase := PySem.W.mg_of X G a_BadCase, x_BadCase := ⟨ga_BadCase, gg_BadCase, ex_BadCase, hd_BadCase, ih_BadCase, in_BadCase, it_BadCase, im_BadCase⟩, xf_BadCase := ⟨ga_BadCase, gg_BadCase, ex_BadCase, hd_BadCase⟩, kC_BadCase := kc_BadCase, ty_BadCase := ty_BadCase,
    m_BadCase := PySem.W.exm_ref ex_SpareError hd_SpareError ty_SpareError sb_BadCase,
    xi_BadCase := xi_BadCase,
    mr_BadLedger := ⟨kd_BadLedger, kl_BadLedger, kr_BadLedger⟩,
    C_BadLedger := C_BadLedger, gC_BadLedger := PySem.W.mg_of X G a_BadLedger, x_BadLedger := ⟨ga_BadLedger, gg_BadLedger, ex_BadLedger, hd_BadLedger, ih_BadLedger, in_BadLedger, it_BadLedger, im_BadLedger⟩, xf_BadLedger := ⟨ga_BadLedger, gg_BadLedger, ex_BadLedger, hd_BadLedger⟩, kC_BadLedger := kc_BadLedger, ty_BadLedger := ty_BadLedger,
    m_BadLedger := PySem.W.exm_ref ex_SpareError hd_SpareError ty_SpareError sb_BadLedger,
    xi_BadLedger := xi_BadLedger,
    mr_BadBeyond := ⟨kd_BadBeyond, kl_BadBeyond, kr_BadBeyond⟩,
    C_BadBeyond := C_BadBeyond, gC_BadBeyond := PySem.W.mg_of X G a_BadBeyond, x_BadBeyond := ⟨ga_BadBeyond, gg_BadBeyond, ex_BadBeyond, hd_BadBeyond, ih_BadBeyond, in_BadBeyond, it_BadBeyond, im_BadBeyond⟩, xf_BadBeyond := ⟨ga_BadBeyond, gg_BadBeyond, ex_BadBeyond, hd_BadBeyond⟩, kC_BadBeyond := kc_BadBeyond, ty_BadBeyond := ty_BadBeyond,
    m_BadBeyond := PySem.W.exm_ref ex_SpareError hd_SpareError ty_SpareError sb_BadBeyond,
    xi_BadBeyond := xi_BadBeyond,
    mr_BadRoute := ⟨kd_BadRoute, kl_BadRoute, kr_BadRoute⟩,
    C_BadRoute := C_BadRoute, gC_BadRoute := PySem.W.mg_of X G a_BadRoute, x_BadRoute := ⟨ga_BadRoute, gg_BadRoute, ex_BadRoute, hd_BadRoute, ih_BadRoute, in_BadRoute, it_BadRoute, im_BadRoute⟩, xf_BadRoute := ⟨ga_BadRoute, gg_BadRoute, ex_BadRoute, hd_BadRoute⟩, kC_BadRoute := kc_BadRoute, ty_BadRoute := ty_BadRoute,
    m_BadRoute := PySem.W.exm_ref ex_SpareError hd_SpareError ty_SpareError sb_BadRoute,
    xi_BadRoute := xi_BadRoute,
    mr_BadNames := ⟨kd_BadNames, kl_BadNames, kr_BadNames⟩,
    C_BadNames := C_BadNames, gC_BadNames := PySem.W.mg_of X G a_BadNames, x_BadNames := ⟨ga_BadNames, gg_BadNames, ex_BadNames, hd_BadNames, ih_BadNames, in_BadNames, it_BadNames, im_BadNames⟩, xf_BadNames := ⟨ga_BadNames, gg_BadNames, ex_BadNames, hd_BadNames⟩, kC_BadNames := kc_BadNames, ty_BadNames := ty_BadNames,
    m_BadNames := PySem.W.exm_ref ex_SpareError hd_SpareError ty_SpareError sb_BadNames,
    xi_BadNames := xi_BadNames,
    dif := dif }, rfl, rfl⟩⟩
  obtain ⟨T, e1, e2⟩ := T
  refine ⟨PySem.W.fnOf "law" "law" (defArgs s_law) (defBody s_law) (defScope s_law) .none kV_law dc_law pm_law an_law cd_law ct_law, fun s v => .of_eq rfl, fun base _ _ => ?_⟩
  rw [e3, ← e1, ← e2]
  exact ok_law T hP
theorem walk {l : PySem.W.OpenLaw} {q : Program} {loose : List Str} {XP : (Str → Option Value) → Heap → Prop} {YP : World → Heap → Prop} {d : DefRec} {K : Params → PySem.W.Frag} (hn : l.most = some 63) (hdf : d.params.defaults = [])
    (hY : ∀ (w : World) (h : Heap), YP w h → (K w.params).In h)
    (F : ∀ (w : World) (mg : Str → Option Value) (fa : Addr) (h : Heap), (K w.params).In h → h.Ns mainGlobals mg → mg d.name = some (.ref fa) →
      ∃ fd : FuncData, (∀ (s : Shared) (u : Value), BindsTo s fd ⟨[u], []⟩ [("_law_script", u)]) ∧ ∀ base : Heap, (K w.params).In base → base.Ns mainGlobals mg → FnG l.prog w (K w.params) mg base CX0 6 fa fd ["_law_script"] (spLaw (K w.params))) :
    PySem.W.WalkO q loose XP YP l.row.toRowW d [] (fun f vs => PySem.call f vs) :=
  walkG (n := 63) (k := 6) (x := "_law_script") (CX := fun _ => CX0) (sp := fun w => spLaw (K w.params)) hn (by decide) hdf ⟨rfl, by decide, by decide⟩ hY F
    (fun _ _ a ns hl _ hS => ⟨a, ns, rfl, hS, hl, fun _ => rfl⟩) fun _ _ _ _ _ z => z
end Sn
open PySem PySem.W PyProof.Rows
set_option maxRecDepth 100000 in
set_option maxHeartbeats 0 in
theorem PySem.Challenge.cw_sparenames_k01_errors_apart_holds : PySem.Challenge.rw_sparenames_k01_errors_apart.Holds := by
  w_on; o_law; k_head; (case hw => w_witness2)
  k_fill
  refine Sn.walk (l := PySem.Challenge.rw_sparenames_k01_errors_apart) rfl rfl (fun w h Y => PySem.W.kIn_of Y) ?F
  case F =>
    intro w mg fa h KX G hmg
    refine' Sn.all_mk KX G hmg ?a_law_begun ?l_law_begun ?c_law_begun ?k_law_begun ?a_law_mixed ?l_law_mixed ?c_law_mixed ?k_law_mixed ?a_law_take ?l_law_take ?c_law_take ?k_law_take ?a_law_pick ?l_law_pick ?c_law_pick ?k_law_pick ?a_law_with_number ?l_law_with_number ?c_law_with_number ?k_law_with_number ?a_law_with_thing ?l_law_with_thing ?c_law_with_thing ?k_law_with_thing ?a_law_with_message ?l_law_with_message ?c_law_with_message ?k_law_with_message ?a_law_raised ?l_law_raised ?c_law_raised ?k_law_raised ?a_law_marks ?l_law_marks ?c_law_marks ?k_law_marks ?a_law_kept ?l_law_kept ?c_law_kept ?k_law_kept ?a_law ?l_law ?c_law ?k_law ?z_super ?z_list ?z_int ?z_len ?z_isinstance ?z_range ?z_min ?z_repr ?z_ValueError ?a_SpareError ?ga_SpareError ?gg_SpareError ?ex_SpareError ?hd_SpareError ?ih_SpareError ?in_SpareError ?it_SpareError ?im_SpareError ?ty_SpareError ?kc_SpareError ?sb_SpareError ?a_BadPath ?ga_BadPath ?gg_BadPath ?ex_BadPath ?hd_BadPath ?ih_BadPath ?in_BadPath ?it_BadPath ?im_BadPath ?ty_BadPath ?kc_BadPath ?sb_BadPath ?kl_BadPath ?kr_BadPath ?xl_BadPath ?rv_BadPath ?sa_BadPath ?no_k_BadPath ?ai_BadPath ?ti_BadPath ?li_BadPath ?ci_BadPath ?lc_BadPath ?hv_BadPath ?hf_BadPath ?ce_BadPath ?su_BadPath ?se_BadPath ?op_BadPath ?ve_BadPath ?a_BadText ?ga_BadText ?gg_BadText ?ex_BadText ?hd_BadText ?ih_BadText ?in_BadText ?it_BadText ?im_BadText ?ty_BadText ?kc_BadText ?sb_BadText ?kl_BadText ?kr_BadText ?xl_BadText ?rv_BadText ?sa_BadText ?no_line_BadText ?ai_BadText ?ti_BadText ?li_BadText ?ci_BadText ?lc_BadText ?hv_BadText ?hf_BadText ?ce_BadText ?su_BadText ?se_BadText ?op_BadText ?ve_BadText ?a_BadKind ?ga_BadKind ?gg_BadKind ?ex_BadKind ?hd_BadKind ?ih_BadKind ?in_BadKind ?it_BadKind ?im_BadKind ?ty_BadKind ?kc_BadKind ?sb_BadKind ?kl_BadKind ?kr_BadKind ?xl_BadKind ?rv_BadKind ?sa_BadKind ?no_k_BadKind ?ai_BadKind ?ti_BadKind ?li_BadKind ?ci_BadKind ?lc_BadKind ?hv_BadKind ?hf_BadKind ?ce_BadKind ?su_BadKind ?se_BadKind ?op_BadKind ?ve_BadKind ?a_BadAnswer ?ga_BadAnswer ?gg_BadAnswer ?ex_BadAnswer ?hd_BadAnswer ?ih_BadAnswer ?in_BadAnswer ?it_BadAnswer ?im_BadAnswer ?ty_BadAnswer ?kc_BadAnswer ?sb_BadAnswer ?kl_BadAnswer ?kr_BadAnswer ?xl_BadAnswer ?rv_BadAnswer ?sa_BadAnswer ?no_k_BadAnswer ?ai_BadAnswer ?ti_BadAnswer ?li_BadAnswer ?ci_BadAnswer ?lc_BadAnswer ?hv_BadAnswer ?hf_BadAnswer ?ce_BadAnswer ?su_BadAnswer ?se_BadAnswer ?op_BadAnswer ?ve_BadAnswer ?a_BadFaded ?ga_BadFaded ?gg_BadFaded ?ex_BadFaded ?hd_BadFaded ?ih_BadFaded ?in_BadFaded ?it_BadFaded ?im_BadFaded ?ty_BadFaded ?kc_BadFaded ?sb_BadFaded ?kl_BadFaded ?kr_BadFaded ?xl_BadFaded ?rv_BadFaded ?sa_BadFaded ?no_k_BadFaded ?ai_BadFaded ?ti_BadFaded ?li_BadFaded ?ci_BadFaded ?lc_BadFaded ?hv_BadFaded ?hf_BadFaded ?ce_BadFaded ?su_BadFaded ?se_BadFaded ?op_BadFaded ?ve_BadFaded ?a_BadEdit ?ga_BadEdit ?gg_BadEdit ?ex_BadEdit ?hd_BadEdit ?ih_BadEdit ?in_BadEdit ?it_BadEdit ?im_BadEdit ?ty_BadEdit ?kc_BadEdit ?sb_BadEdit ?kl_BadEdit ?kr_BadEdit ?xl_BadEdit ?rv_BadEdit ?sa_BadEdit ?no_k_BadEdit ?ai_BadEdit ?ti_BadEdit ?li_BadEdit ?ci_BadEdit ?lc_BadEdit ?hv_BadEdit ?hf_BadEdit ?ce_BadEdit ?su_BadEdit ?se_BadEdit ?op_BadEdit ?ve_BadEdit ?a_NoModule ?ga_NoModule ?gg_NoModule ?ex_NoModule ?hd_NoModule ?ih_NoModule ?in_NoModule ?it_NoModule ?im_NoModule ?ty_NoModule ?kc_NoModule ?sb_NoModule ?kl_NoModule ?kr_NoModule ?xl_NoModule ?rv_NoModule ?sa_NoModule ?no_name_NoModule ?ai_NoModule ?ti_NoModule ?li_NoModule ?ci_NoModule ?lc_NoModule ?hv_NoModule ?hf_NoModule ?ce_NoModule ?su_NoModule ?se_NoModule ?op_NoModule ?ve_NoModule ?a_NoDefinition ?ga_NoDefinition ?gg_NoDefinition ?ex_NoDefinition ?hd_NoDefinition ?ih_NoDefinition ?in_NoDefinition ?it_NoDefinition ?im_NoDefinition ?ty_NoDefinition ?kc_NoDefinition ?sb_NoDefinition ?kl_NoDefinition ?kr_NoDefinition ?xl_NoDefinition ?rv_NoDefinition ?sa_NoDefinition ?no_path_NoDefinition ?ai_NoDefinition ?ti_NoDefinition ?li_NoDefinition ?ci_NoDefinition ?lc_NoDefinition ?hv_NoDefinition ?hf_NoDefinition ?ce_NoDefinition ?su_NoDefinition ?se_NoDefinition ?op_NoDefinition ?ve_NoDefinition ?a_Used ?ga_Used ?gg_Used ?ex_Used ?hd_Used ?ih_Used ?in_Used ?it_Used ?im_Used ?ty_Used ?kc_Used ?sb_Used ?kl_Used ?kr_Used ?xl_Used ?rv_Used ?sa_Used ?no_path_Used ?ai_Used ?ti_Used ?li_Used ?ci_Used ?lc_Used ?hv_Used ?hf_Used ?ce_Used ?su_Used ?se_Used ?op_Used ?ve_Used ?a_BadModule ?ga_BadModule ?gg_BadModule ?ex_BadModule ?hd_BadModule ?ih_BadModule ?in_BadModule ?it_BadModule ?im_BadModule ?ty_BadModule ?kc_BadModule ?sb_BadModule ?kl_BadModule ?kr_BadModule ?xl_BadModule ?rv_BadModule ?sa_BadModule ?no_name_BadModule ?no_line_BadModule ?ai_BadModule ?ti_BadModule ?li_BadModule ?ci_BadModule ?lc_BadModule ?hv_BadModule ?hf_BadModule ?ce_BadModule ?su_BadModule ?se_BadModule ?op_BadModule ?ve_BadModule ?a_BadTree ?ga_BadTree ?gg_BadTree ?ex_BadTree ?hd_BadTree ?ih_BadTree ?in_BadTree ?it_BadTree ?im_BadTree ?ty_BadTree ?kc_BadTree ?sb_BadTree ?kl_BadTree ?kr_BadTree ?xi_BadTree ?a_BadStart ?ga_BadStart ?gg_BadStart ?ex_BadStart ?hd_BadStart ?ih_BadStart ?in_BadStart ?it_BadStart ?im_BadStart ?ty_BadStart ?kc_BadStart ?sb_BadStart ?kl_BadStart ?kr_BadStart ?xi_BadStart ?a_BadArguments ?ga_BadArguments ?gg_BadArguments ?ex_BadArguments ?hd_BadArguments ?ih_BadArguments ?in_BadArguments ?it_BadArguments ?im_BadArguments ?ty_BadArguments ?kc_BadArguments ?sb_BadArguments ?kl_BadArguments ?kr_BadArguments ?xi_BadArguments ?a_BadLimit ?ga_BadLimit ?gg_BadLimit ?ex_BadLimit ?hd_BadLimit ?ih_BadLimit ?in_BadLimit ?it_BadLimit ?im_BadLimit ?ty_BadLimit ?kc_BadLimit ?sb_BadLimit ?kl_BadLimit ?kr_BadLimit ?xi_BadLimit ?a_BadCase ?ga_BadCase ?gg_BadCase ?ex_BadCase ?hd_BadCase ?ih_BadCase ?in_BadCase ?it_BadCase ?im_BadCase ?ty_BadCase ?kc_BadCase ?sb_BadCase ?kl_BadCase ?kr_BadCase ?xi_BadCase ?a_BadLedger ?ga_BadLedger ?gg_BadLedger ?ex_BadLedger ?hd_BadLedger ?ih_BadLedger ?in_BadLedger ?it_BadLedger ?im_BadLedger ?ty_BadLedger ?kc_BadLedger ?sb_BadLedger ?kl_BadLedger ?kr_BadLedger ?xi_BadLedger ?a_BadBeyond ?ga_BadBeyond ?gg_BadBeyond ?ex_BadBeyond ?hd_BadBeyond ?ih_BadBeyond ?in_BadBeyond ?it_BadBeyond ?im_BadBeyond ?ty_BadBeyond ?kc_BadBeyond ?sb_BadBeyond ?kl_BadBeyond ?kr_BadBeyond ?xi_BadBeyond ?a_BadRoute ?ga_BadRoute ?gg_BadRoute ?ex_BadRoute ?hd_BadRoute ?ih_BadRoute ?in_BadRoute ?it_BadRoute ?im_BadRoute ?ty_BadRoute ?kc_BadRoute ?sb_BadRoute ?kl_BadRoute ?kr_BadRoute ?xi_BadRoute ?a_BadNames ?ga_BadNames ?gg_BadNames ?ex_BadNames ?hd_BadNames ?ih_BadNames ?in_BadNames ?it_BadNames ?im_BadNames ?ty_BadNames ?kc_BadNames ?sb_BadNames ?kl_BadNames ?kr_BadNames ?xi_BadNames ?dif ?hP
    (case a_law_begun => k_is)
    (case l_law_begun => k_is)
    (case c_law_begun => k_is)
    (case k_law_begun => k_is)
    (case a_law_mixed => k_is)
    (case l_law_mixed => k_is)
    (case c_law_mixed => k_is)
    (case k_law_mixed => k_is)
    (case a_law_take => k_is)
    (case l_law_take => k_is)
    (case c_law_take => k_is)
    (case k_law_take => k_is)
    (case a_law_pick => k_is)
    (case l_law_pick => k_is)
    (case c_law_pick => k_is)
    (case k_law_pick => k_is)
    (case a_law_with_number => k_is)
    (case l_law_with_number => k_is)
    (case c_law_with_number => k_is)
    (case k_law_with_number => k_is)
    (case a_law_with_thing => k_is)
    (case l_law_with_thing => k_is)
    (case c_law_with_thing => k_is)
    (case k_law_with_thing => k_is)
    (case a_law_with_message => k_is)
    (case l_law_with_message => k_is)
    (case c_law_with_message => k_is)
    (case k_law_with_message => k_is)
    (case a_law_raised => k_is)
    (case l_law_raised => k_is)
    (case c_law_raised => k_is)
    (case k_law_raised => k_is)
    (case a_law_marks => k_is)
    (case l_law_marks => k_is)
    (case c_law_marks => k_is)
    (case k_law_marks => k_is)
    (case a_law_kept => k_is)
    (case l_law_kept => k_is)
    (case c_law_kept => k_is)
    (case k_law_kept => k_is)
    (case a_law => k_is)
    (case l_law => k_is)
    (case c_law => k_is)
    (case k_law => k_is)
    (case z_super => k_is)
    (case z_list => k_is)
    (case z_int => k_is)
    (case z_len => k_is)
    (case z_isinstance => k_is)
    (case z_range => k_is)
    (case z_min => k_is)
    (case z_repr => k_is)
    (case z_ValueError => k_is)
    (case a_SpareError => k_is)
    (case ga_SpareError => k_is)
    (case gg_SpareError => k_is)
    (case ex_SpareError => k_is)
    (case hd_SpareError => k_is)
    (case ih_SpareError => k_is)
    (case in_SpareError => k_is)
    (case it_SpareError => k_is)
    (case im_SpareError => k_is)
    (case ty_SpareError => k_is)
    (case kc_SpareError => k_is)
    (case sb_SpareError => first | rfl | k_is)
    (case a_BadPath => k_is)
    (case ga_BadPath => k_is)
    (case gg_BadPath => k_is)
    (case ex_BadPath => k_is)
    (case hd_BadPath => k_is)
    (case ih_BadPath => k_is)
    (case in_BadPath => k_is)
    (case it_BadPath => k_is)
    (case im_BadPath => k_is)
    (case ty_BadPath => k_is)
    (case kc_BadPath => k_is)
    (case sb_BadPath => first | rfl | k_is)
    (case kl_BadPath => k_is)
    (case kr_BadPath => rfl)
    (case xl_BadPath => k_is)
    (case rv_BadPath => first | rfl | decide +kernel)
    (case sa_BadPath => k_is)
    (case no_k_BadPath => k_is)
    (case ai_BadPath => k_is)
    (case ti_BadPath => k_is)
    (case li_BadPath => k_is)
    (case ci_BadPath => k_is)
    (case lc_BadPath => k_is)
    (case hv_BadPath => rfl)
    (case hf_BadPath => first | rfl | decide +kernel)
    (case ce_BadPath => k_is)
    (case su_BadPath => ks_is)
    (case se_BadPath => k_is)
    (case op_BadPath => k_is)
    (case ve_BadPath => k_is)
    (case a_BadText => k_is)
    (case ga_BadText => k_is)
    (case gg_BadText => k_is)
    (case ex_BadText => k_is)
    (case hd_BadText => k_is)
    (case ih_BadText => k_is)
    (case in_BadText => k_is)
    (case it_BadText => k_is)
    (case im_BadText => k_is)
    (case ty_BadText => k_is)
    (case kc_BadText => k_is)
    (case sb_BadText => first | rfl | k_is)
    (case kl_BadText => k_is)
    (case kr_BadText => rfl)
    (case xl_BadText => k_is)
    (case rv_BadText => first | rfl | decide +kernel)
    (case sa_BadText => k_is)
    (case no_line_BadText => k_is)
    (case ai_BadText => k_is)
    (case ti_BadText => k_is)
    (case li_BadText => k_is)
    (case ci_BadText => k_is)
    (case lc_BadText => k_is)
    (case hv_BadText => rfl)
    (case hf_BadText => first | rfl | decide +kernel)
    (case ce_BadText => k_is)
    (case su_BadText => ks_is)
    (case se_BadText => k_is)
    (case op_BadText => k_is)
    (case ve_BadText => k_is)
    (case a_BadKind => k_is)
    (case ga_BadKind => k_is)
    (case gg_BadKind => k_is)
    (case ex_BadKind => k_is)
    (case hd_BadKind => k_is)
    (case ih_BadKind => k_is)
    (case in_BadKind => k_is)
    (case it_BadKind => k_is)
    (case im_BadKind => k_is)
    (case ty_BadKind => k_is)
    (case kc_BadKind => k_is)
    (case sb_BadKind => first | rfl | k_is)
    (case kl_BadKind => k_is)
    (case kr_BadKind => rfl)
    (case xl_BadKind => k_is)
    (case rv_BadKind => first | rfl | decide +kernel)
    (case sa_BadKind => k_is)
    (case no_k_BadKind => k_is)
    (case ai_BadKind => k_is)
    (case ti_BadKind => k_is)
    (case li_BadKind => k_is)
    (case ci_BadKind => k_is)
    (case lc_BadKind => k_is)
    (case hv_BadKind => rfl)
    (case hf_BadKind => first | rfl | decide +kernel)
    (case ce_BadKind => k_is)
    (case su_BadKind => ks_is)
    (case se_BadKind => k_is)
    (case op_BadKind => k_is)
    (case ve_BadKind => k_is)
    (case a_BadAnswer => k_is)
    (case ga_BadAnswer => k_is)
    (case gg_BadAnswer => k_is)
    (case ex_BadAnswer => k_is)
    (case hd_BadAnswer => k_is)
    (case ih_BadAnswer => k_is)
    (case in_BadAnswer => k_is)
    (case it_BadAnswer => k_is)
    (case im_BadAnswer => k_is)
    (case ty_BadAnswer => k_is)
    (case kc_BadAnswer => k_is)
    (case sb_BadAnswer => first | rfl | k_is)
    (case kl_BadAnswer => k_is)
    (case kr_BadAnswer => rfl)
    (case xl_BadAnswer => k_is)
    (case rv_BadAnswer => first | rfl | decide +kernel)
    (case sa_BadAnswer => k_is)
    (case no_k_BadAnswer => k_is)
    (case ai_BadAnswer => k_is)
    (case ti_BadAnswer => k_is)
    (case li_BadAnswer => k_is)
    (case ci_BadAnswer => k_is)
    (case lc_BadAnswer => k_is)
    (case hv_BadAnswer => rfl)
    (case hf_BadAnswer => first | rfl | decide +kernel)
    (case ce_BadAnswer => k_is)
    (case su_BadAnswer => ks_is)
    (case se_BadAnswer => k_is)
    (case op_BadAnswer => k_is)
    (case ve_BadAnswer => k_is)
    (case a_BadFaded => k_is)
    (case ga_BadFaded => k_is)
    (case gg_BadFaded => k_is)
    (case ex_BadFaded => k_is)
    (case hd_BadFaded => k_is)
    (case ih_BadFaded => k_is)
    (case in_BadFaded => k_is)
    (case it_BadFaded => k_is)
    (case im_BadFaded => k_is)
    (case ty_BadFaded => k_is)
    (case kc_BadFaded => k_is)
    (case sb_BadFaded => first | rfl | k_is)
    (case kl_BadFaded => k_is)
    (case kr_BadFaded => rfl)
    (case xl_BadFaded => k_is)
    (case rv_BadFaded => first | rfl | decide +kernel)
    (case sa_BadFaded => k_is)
    (case no_k_BadFaded => k_is)
    (case ai_BadFaded => k_is)
    (case ti_BadFaded => k_is)
    (case li_BadFaded => k_is)
    (case ci_BadFaded => k_is)
    (case lc_BadFaded => k_is)
    (case hv_BadFaded => rfl)
    (case hf_BadFaded => first | rfl | decide +kernel)
    (case ce_BadFaded => k_is)
    (case su_BadFaded => ks_is)
    (case se_BadFaded => k_is)
    (case op_BadFaded => k_is)
    (case ve_BadFaded => k_is)
    (case a_BadEdit => k_is)
    (case ga_BadEdit => k_is)
    (case gg_BadEdit => k_is)
    (case ex_BadEdit => k_is)
    (case hd_BadEdit => k_is)
    (case ih_BadEdit => k_is)
    (case in_BadEdit => k_is)
    (case it_BadEdit => k_is)
    (case im_BadEdit => k_is)
    (case ty_BadEdit => k_is)
    (case kc_BadEdit => k_is)
    (case sb_BadEdit => first | rfl | k_is)
    (case kl_BadEdit => k_is)
    (case kr_BadEdit => rfl)
    (case xl_BadEdit => k_is)
    (case rv_BadEdit => first | rfl | decide +kernel)
    (case sa_BadEdit => k_is)
    (case no_k_BadEdit => k_is)
    (case ai_BadEdit => k_is)
    (case ti_BadEdit => k_is)
    (case li_BadEdit => k_is)
    (case ci_BadEdit => k_is)
    (case lc_BadEdit => k_is)
    (case hv_BadEdit => rfl)
    (case hf_BadEdit => first | rfl | decide +kernel)
    (case ce_BadEdit => k_is)
    (case su_BadEdit => ks_is)
    (case se_BadEdit => k_is)
    (case op_BadEdit => k_is)
    (case ve_BadEdit => k_is)
    (case a_NoModule => k_is)
    (case ga_NoModule => k_is)
    (case gg_NoModule => k_is)
    (case ex_NoModule => k_is)
    (case hd_NoModule => k_is)
    (case ih_NoModule => k_is)
    (case in_NoModule => k_is)
    (case it_NoModule => k_is)
    (case im_NoModule => k_is)
    (case ty_NoModule => k_is)
    (case kc_NoModule => k_is)
    (case sb_NoModule => first | rfl | k_is)
    (case kl_NoModule => k_is)
    (case kr_NoModule => rfl)
    (case xl_NoModule => k_is)
    (case rv_NoModule => first | rfl | decide +kernel)
    (case sa_NoModule => k_is)
    (case no_name_NoModule => k_is)
    (case ai_NoModule => k_is)
    (case ti_NoModule => k_is)
    (case li_NoModule => k_is)
    (case ci_NoModule => k_is)
    (case lc_NoModule => k_is)
    (case hv_NoModule => rfl)
    (case hf_NoModule => first | rfl | decide +kernel)
    (case ce_NoModule => k_is)
    (case su_NoModule => ks_is)
    (case se_NoModule => k_is)
    (case op_NoModule => k_is)
    (case ve_NoModule => k_is)
    (case a_NoDefinition => k_is)
    (case ga_NoDefinition => k_is)
    (case gg_NoDefinition => k_is)
    (case ex_NoDefinition => k_is)
    (case hd_NoDefinition => k_is)
    (case ih_NoDefinition => k_is)
    (case in_NoDefinition => k_is)
    (case it_NoDefinition => k_is)
    (case im_NoDefinition => k_is)
    (case ty_NoDefinition => k_is)
    (case kc_NoDefinition => k_is)
    (case sb_NoDefinition => first | rfl | k_is)
    (case kl_NoDefinition => k_is)
    (case kr_NoDefinition => rfl)
    (case xl_NoDefinition => k_is)
    (case rv_NoDefinition => first | rfl | decide +kernel)
    (case sa_NoDefinition => k_is)
    (case no_path_NoDefinition => k_is)
    (case ai_NoDefinition => k_is)
    (case ti_NoDefinition => k_is)
    (case li_NoDefinition => k_is)
    (case ci_NoDefinition => k_is)
    (case lc_NoDefinition => k_is)
    (case hv_NoDefinition => rfl)
    (case hf_NoDefinition => first | rfl | decide +kernel)
    (case ce_NoDefinition => k_is)
    (case su_NoDefinition => ks_is)
    (case se_NoDefinition => k_is)
    (case op_NoDefinition => k_is)
    (case ve_NoDefinition => k_is)
    (case a_Used => k_is)
    (case ga_Used => k_is)
    (case gg_Used => k_is)
    (case ex_Used => k_is)
    (case hd_Used => k_is)
    (case ih_Used => k_is)
    (case in_Used => k_is)
    (case it_Used => k_is)
    (case im_Used => k_is)
    (case ty_Used => k_is)
    (case kc_Used => k_is)
    (case sb_Used => first | rfl | k_is)
    (case kl_Used => k_is)
    (case kr_Used => rfl)
    (case xl_Used => k_is)
    (case rv_Used => first | rfl | decide +kernel)
    (case sa_Used => k_is)
    (case no_path_Used => k_is)
    (case ai_Used => k_is)
    (case ti_Used => k_is)
    (case li_Used => k_is)
    (case ci_Used => k_is)
    (case lc_Used => k_is)
    (case hv_Used => rfl)
    (case hf_Used => first | rfl | decide +kernel)
    (case ce_Used => k_is)
    (case su_Used => ks_is)
    (case se_Used => k_is)
    (case op_Used => k_is)
    (case ve_Used => k_is)
    (case a_BadModule => k_is)
    (case ga_BadModule => k_is)
    (case gg_BadModule => k_is)
    (case ex_BadModule => k_is)
    (case hd_BadModule => k_is)
    (case ih_BadModule => k_is)
    (case in_BadModule => k_is)
    (case it_BadModule => k_is)
    (case im_BadModule => k_is)
    (case ty_BadModule => k_is)
    (case kc_BadModule => k_is)
    (case sb_BadModule => first | rfl | k_is)
    (case kl_BadModule => k_is)
    (case kr_BadModule => rfl)
    (case xl_BadModule => k_is)
    (case rv_BadModule => first | rfl | decide +kernel)
    (case sa_BadModule => k_is)
    (case no_name_BadModule => k_is)
    (case no_line_BadModule => k_is)
    (case ai_BadModule => k_is)
    (case ti_BadModule => k_is)
    (case li_BadModule => k_is)
    (case ci_BadModule => k_is)
    (case lc_BadModule => k_is)
    (case hv_BadModule => rfl)
    (case hf_BadModule => first | rfl | decide +kernel)
    (case ce_BadModule => k_is)
    (case su_BadModule => ks_is)
    (case se_BadModule => k_is)
    (case op_BadModule => k_is)
    (case ve_BadModule => k_is)
    (case a_BadTree => k_is)
    (case ga_BadTree => k_is)
    (case gg_BadTree => k_is)
    (case ex_BadTree => k_is)
    (case hd_BadTree => k_is)
    (case ih_BadTree => k_is)
    (case in_BadTree => k_is)
    (case it_BadTree => k_is)
    (case im_BadTree => k_is)
    (case ty_BadTree => k_is)
    (case kc_BadTree => k_is)
    (case sb_BadTree => first | rfl | k_is)
    (case kl_BadTree => k_is)
    (case kr_BadTree => rfl)
    (case xi_BadTree => k_exc)
    (case a_BadStart => k_is)
    (case ga_BadStart => k_is)
    (case gg_BadStart => k_is)
    (case ex_BadStart => k_is)
    (case hd_BadStart => k_is)
    (case ih_BadStart => k_is)
    (case in_BadStart => k_is)
    (case it_BadStart => k_is)
    (case im_BadStart => k_is)
    (case ty_BadStart => k_is)
    (case kc_BadStart => k_is)
    (case sb_BadStart => first | rfl | k_is)
    (case kl_BadStart => k_is)
    (case kr_BadStart => rfl)
    (case xi_BadStart => k_exc)
    (case a_BadArguments => k_is)
    (case ga_BadArguments => k_is)
    (case gg_BadArguments => k_is)
    (case ex_BadArguments => k_is)
    (case hd_BadArguments => k_is)
    (case ih_BadArguments => k_is)
    (case in_BadArguments => k_is)
    (case it_BadArguments => k_is)
    (case im_BadArguments => k_is)
    (case ty_BadArguments => k_is)
    (case kc_BadArguments => k_is)
    (case sb_BadArguments => first | rfl | k_is)
    (case kl_BadArguments => k_is)
    (case kr_BadArguments => rfl)
    (case xi_BadArguments => k_exc)
    (case a_BadLimit => k_is)
    (case ga_BadLimit => k_is)
    (case gg_BadLimit => k_is)
    (case ex_BadLimit => k_is)
    (case hd_BadLimit => k_is)
    (case ih_BadLimit => k_is)
    (case in_BadLimit => k_is)
    (case it_BadLimit => k_is)
    (case im_BadLimit => k_is)
    (case ty_BadLimit => k_is)
    (case kc_BadLimit => k_is)
    (case sb_BadLimit => first | rfl | k_is)
    (case kl_BadLimit => k_is)
    (case kr_BadLimit => rfl)
    (case xi_BadLimit => k_exc)
    (case a_BadCase => k_is)
    (case ga_BadCase => k_is)
    (case gg_BadCase => k_is)
    (case ex_BadCase => k_is)
    (case hd_BadCase => k_is)
    (case ih_BadCase => k_is)
    (case in_BadCase => k_is)
    (case it_BadCase => k_is)
    (case im_BadCase => k_is)
    (case ty_BadCase => k_is)
    (case kc_BadCase => k_is)
    (case sb_BadCase => first | rfl | k_is)
    (case kl_BadCase => k_is)
    (case kr_BadCase => rfl)
    (case xi_BadCase => k_exc)
    (case a_BadLedger => k_is)
    (case ga_BadLedger => k_is)
    (case gg_BadLedger => k_is)
    (case ex_BadLedger => k_is)
    (case hd_BadLedger => k_is)
    (case ih_BadLedger => k_is)
    (case in_BadLedger => k_is)
    (case it_BadLedger => k_is)
    (case im_BadLedger => k_is)
    (case ty_BadLedger => k_is)
    (case kc_BadLedger => k_is)
    (case sb_BadLedger => first | rfl | k_is)
    (case kl_BadLedger => k_is)
    (case kr_BadLedger => rfl)
    (case xi_BadLedger => k_exc)
    (case a_BadBeyond => k_is)
    (case ga_BadBeyond => k_is)
    (case gg_BadBeyond => k_is)
    (case ex_BadBeyond => k_is)
    (case hd_BadBeyond => k_is)
    (case ih_BadBeyond => k_is)
    (case in_BadBeyond => k_is)
    (case it_BadBeyond => k_is)
    (case im_BadBeyond => k_is)
    (case ty_BadBeyond => k_is)
    (case kc_BadBeyond => k_is)
    (case sb_BadBeyond => first | rfl | k_is)
    (case kl_BadBeyond => k_is)
    (case kr_BadBeyond => rfl)
    (case xi_BadBeyond => k_exc)
    (case a_BadRoute => k_is)
    (case ga_BadRoute => k_is)
    (case gg_BadRoute => k_is)
    (case ex_BadRoute => k_is)
    (case hd_BadRoute => k_is)
    (case ih_BadRoute => k_is)
    (case in_BadRoute => k_is)
    (case it_BadRoute => k_is)
    (case im_BadRoute => k_is)
    (case ty_BadRoute => k_is)
    (case kc_BadRoute => k_is)
    (case sb_BadRoute => first | rfl | k_is)
    (case kl_BadRoute => k_is)
    (case kr_BadRoute => rfl)
    (case xi_BadRoute => k_exc)
    (case a_BadNames => k_is)
    (case ga_BadNames => k_is)
    (case gg_BadNames => k_is)
    (case ex_BadNames => k_is)
    (case hd_BadNames => k_is)
    (case ih_BadNames => k_is)
    (case in_BadNames => k_is)
    (case it_BadNames => k_is)
    (case im_BadNames => k_is)
    (case ty_BadNames => k_is)
    (case kc_BadNames => k_is)
    (case sb_BadNames => first | rfl | k_is)
    (case kl_BadNames => k_is)
    (case kr_BadNames => rfl)
    (case xi_BadNames => k_exc)
    (case dif => decide)
    (case hP => exact ⟨rfl, by decide +kernel⟩)
#print axioms PySem.Challenge.cw_sparenames_k01_errors_apart_holds

