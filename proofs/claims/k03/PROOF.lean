import PyProof.Rows.All
import Wide.All
import OpenK.AllK
import Wide.FinOn
import HandS.ForMost
import HandS.IsInst
import HandS.Flow
import HandS.Walk
import HandS.Codes
import PyProof.TupleOfStr
import PyProof.ReprRoads
import HandS.OwnEq
import HandS.DictComp
import HandS.Star
import HandS.Conv
import HandS.ClsMeth
import KE.GoesMore
import HandS.ExcInit
import HandS.ExcValue
import HandS.ExcField
import HandS.ExcOwn
import HandS.WordsExc
import KE.KExcSuper
import KE.KExcIs
import HandS.ExcIs
import KE.KSuperObj
import HandS.Dict
import PyProof.NeKinds
import PyProof.ReprLen
import HandS.Style
import PySem.Challenge.RW_sparenames_k03_sets_of_paths
set_option Elab.async false
set_option linter.all false
set_option maxRecDepth 100000
set_option maxHeartbeats 4000000
/-! ## A small layer of our own over HandS: defs whose callers have no repr under way (guards), repr of data, tuple(text) -/
namespace Sn
open PySem PySem.Spec PyProof.Rows L2

/-! ### a def's promise where no repr is under way -/
section
variable {P : Program} {w : World} {K : PySem.W.Frag} {mg : Str → Option Value} {base : Heap} {CX : CXT}
structure FnG (P : Program) (w : World) (K : PySem.W.Frag) (mg : Str → Option Value)
    (base : Heap) (CX : CXT) (k : Nat) (f : Addr) (fd : FuncData) (ps : List Str) (sp : Sp) : Prop where
  leng : ∀ xs H Q E, sp xs H Q E → xs.length = ps.length
  runs : ∀ (A : Around) (fr : List Env) (s : Shared) (H : Hp) (ar : Args) (us : List Value) (xs : List V) (Q : VK) (E : XK),
    A.guards = some [] → Room k A → Env0 P w K mg base A fr s H → BindsTo s fd ar (ps.zip us) → Vals xs us → sp xs H Q E →
    codeAny (model P w) A (.call (.ref f) ar) (CR CX fr P w H s Q E) s
theorem FnG.of {k : Nat} {f : Addr} {fd : FuncData} {ps : List Str} {sp : Sp}
    (F : FnOk P w K mg base CX k f fd ps sp) : FnG P w K mg base CX k f fd ps sp :=
  ⟨F.len, fun A fr s H ar us xs Q E _ a b c d e => F.run A fr s H ar us xs Q E a b c d e⟩
theorem fnG_of {k : Nat} {f : Addr} {nm ql : Str} {pa : Arguments} {bd : List Stmt} {sc : Scope}
    {dV kV dc pm cd ct oc : Value} {an od : Option Addr} {sl : Array (Option Value)} {N ps : List Str} {sp : Sp}
    (lk : K.lookup f = some ⟨oc, od, .func (PySem.W.fnOf nm ql pa bd sc dV kV dc pm an cd ct), sl⟩)
    (hc : PySem.W.codeIn K cd ql = true) (S : FnScope N ps sc) (leng : ∀ xs H Q E, sp xs H Q E → xs.length = ps.length)
    (hb : ∀ (A : Around) (fr : List Env) (s : Shared) (H : Hp) (xs : List V) (Q : VK) (E : XK),
      (A.deeper (envOfC ql sc s.heap.objs.size f cd)).guards = some [] → Room k (A.deeper (envOfC ql sc s.heap.objs.size f cd)) →
      sp xs H Q E → ∃ t, PSs (cxOf CX P w K mg base N ql sc f cd A fr s H E) bd t ∧
        t { nx := fun _ H' => Q .non H', rt := Q } (start N xs) H) :
    FnG P w K mg base CX (k + 1) f (PySem.W.fnOf nm ql pa bd sc dV kV dc pm an cd ct) ps sp := by
  refine ⟨leng, ?_⟩
  intro A fr s H ar us xs Q E hg hr e0 hbi rv hsp
  have hlen := leng _ _ _ _ hsp
  have kin : K.In s.heap := e0.mod.kin.keeps fun b o q => (e0.bs b o q).1
  have nol : s.heap.NoLimit := e0.mod.nolimit.keeps fun b o q => (e0.bs b o q).1
  have knd : ∀ y ∈ ps.zip us, sc.names.lookup y.1 = some .local ∨ (sc.names.lookup y.1 = some .cell ∧
      ((cellsFrom (s.heap.objs.size + 1) sc.names []).lookup y.1).isSome = true) := by
    rintro ⟨n, v⟩ hy
    exact (S.par n (List.of_mem_zip hy).1).elim .inl fun q => .inr ⟨q, PySem.W.cellsFrom_some _ _ _ (.inl q)⟩
  refine codeAny_call_function hr.depth (kin _ _ lk) rfl S.co S.gen rfl (PySem.W.codeRec_of kin hc) ?_
  refine hbi _ _ _ _ ?_
  refine wpAny_newFunctionEnv_cells S.kind knd ?_
  rintro env rfl s1 x
  refine ⟨nol.keeps x.toInCall.keep, codeAny_func ?_⟩
  obtain ⟨t, ht, hq⟩ := hb A fr s H xs Q E hg (hr.deeper _) hsp
  have J : Inv (cxOf CX P w K mg base N ql sc f cd A fr s H E) [] (start N xs) H s1 :=
    inv_start S hr.hd e0 hlen rv x
  refine wpAny_mono (ht.run [] s1 (start N xs) H _ J hq) ?_ fun e s' z => z
  intro fl s' hs
  match fl, hs with
  | .ret u, ⟨v, σ', H', J', rr, qq⟩ => exact ⟨v, H', J'.os, J'.bare, J'.base, J'.hok, rr, qq⟩
  | .next, ⟨σ', H', J', qq⟩ => exact ⟨V.non, H', J'.os, J'.bare, J'.base, J'.hok, rfl, qq⟩
  | .brk, ⟨_, _, _, qq⟩ => exact False.elim qq
  | .cont, ⟨_, _, _, qq⟩ => exact False.elim qq
theorem okG {x ql : Str} {st : Stmt} {f : Addr} {fd : FuncData} {N ps : List Str} {k : Nat} {sp : Sp}
    (F : Fun K x ql st f fd) (S : FnScope N ps (defScope st)) (leng : ∀ xs H Q E, sp xs H Q E → xs.length = ps.length)
    (hb : ∀ (cd : Value) (A : Around) (fr : List Env) (s : Shared) (H : Hp) (xs : List V) (Q : VK) (E : XK),
      (A.deeper (envOfC ql (defScope st) s.heap.objs.size f cd)).guards = some [] →
      Room k (A.deeper (envOfC ql (defScope st) s.heap.objs.size f cd)) → sp xs H Q E →
      ∃ t, PSs (cxOf CX0 P w K mg base N ql (defScope st) f cd A fr s H E).nox (defBody st) t ∧
        t { nx := fun _ H' => Q .non H', rt := Q } (start N xs) H) :
    FnG P w K mg base CX0 (k + 1) f fd ps sp := by
  obtain ⟨oc, od, kV, dc, pm, an, cd, ct, sl, rfl, lk, hcd⟩ := F.ex
  refine fnG_of lk hcd S leng fun A fr s H xs Q E hg hr h => ?_
  obtain ⟨t, a, b⟩ := hb cd A fr s H xs Q E hg hr h
  exact ⟨t, a.nox, b⟩
end

section
variable {X : Cx} {CX : CXT} {k : Nat} {f : Addr} {fd : FuncData} {ps : List Str} {sp : Sp} {dvs : List V} {ds : List Value}
  {E : XK} {x : Str} {p pos : Pos} {e : Expr} {es : List Expr} {t : TA}
theorem runG {pins : List (Addr × Obj)} {σ : L2.St} {H : Hp} {s : Shared} {Q : VK} {us : List Value} {xs : List V}
    (F : FnG X.prog X.w X.K X.mg X.base CX k f fd ps sp) (hgu : X.A.guards = some []) (hr : Room k X.A)
    (hb : Binds X.K fd ps ds) (hd : Vals dvs ds) (hx : Passes CX X E) (I : Inv X pins σ H s) (r : Vals xs us)
    (h : sp (xs ++ dvs) H Q E) : wpAny (model X.prog X.w) X.A (call (.ref f) us) (EP X pins σ Q) X.xe s := by
  have r2 : Vals (xs ++ dvs) (us ++ ds) := r.append hd
  have hl : (us ++ ds).length = ps.length := r2.length.symm.trans (F.leng _ _ _ _ h)
  refine wpAny_call (codeAny_mono (F.runs X.A X.stack s H ⟨us, []⟩ _ _ Q E hgu hr I.env0 (hb s us I.kIn hl) r2 h) ?_)
  intro r s' hq
  match r, hq with
  | .error e, hq => exact hx pins σ H s e s' I hq
  | .ok (.ret u), hq => exact I.after hq
  | .ok .next, hq => exact False.elim hq
  | .ok .brk, hq => exact False.elim hq
  | .ok .cont, hq => exact False.elim hq
/-- f(e, ..) where no repr is under way -/
theorem pe_callG (F : FnG X.prog X.w X.K X.mg X.base CX k f fd ps sp) (hgu : X.A.guards = some []) (hr : Room k X.A) (hg : Gl X x)
    (hm : X.mg x = some (.ref f)) (hk : PySem.W.keepIn X.K (.ref f) = true) (hb : Binds X.K fd ps ds) (hd : Vals dvs ds)
    (hx : Passes CX X E) (ha : PA X (e :: es) t) (hdb : (x == ("__debug__" : Str)) = false := by decide)
    (he : starEach (e :: es) X.env = (false, eval e X.env) :: starEach es X.env := by rfl)
    (hpl : (backTo pos (starEach es X.env)).any (·.1) = false := by rfl) :
    PE X (.Call (.Name x p) (e :: es) [] pos) (tCall sp dvs E t) := by
  refine ⟨fun pins s σ H Q I h => wpAny_Call_Name_kw (ld_glob I hg hm ?_ hdb)⟩
  refine PySem.W.callWith_K (h₀ := X.base) I.ok.mod.kin hk ?_ he hpl
  refine thn (ha.run pos pins s σ H _ I h) ?_
  rintro us s1 ⟨xs, H1, I1, r, q⟩
  exact ⟨I1.kIn, runG F hgu hr hb hd hx I1 r q⟩

/-- f(k = v, ..), keywords alone -/
theorem pe_callK0 {kws : List Keyword} {tk : TA} {ks : List Str} {g : List Value → List Value → List Value} {gV : List V → List V → List V}
    (F : FnOk X.prog X.w X.K X.mg X.base CX k f fd ps sp) (hr : Room k X.A) (hg : Gl X x) (hm : X.mg x = some (.ref f))
    (hk : PySem.W.keepIn X.K (.ref f) = true) (hb : KBinds X.K fd ps ks g gV) (hx : Passes CX X E) (hkw : PK X kws tk)
    (hall : (backToKw pos (keywordEach kws X.env)).all (·.1.isSome) = true := by rfl)
    (hks : (backToKw pos (keywordEach kws X.env)).filterMap (·.1) = ks := by rfl) (hdb : (x == ("__debug__" : Str)) = false := by decide)
    (hpl : (backToKw pos (keywordEach kws X.env)).any (·.1.isNone) = false := by rfl) :
    PE X (.Call (.Name x p) [] kws pos) (tCallK sp gV E tNil tk) := by
  refine ⟨fun pins s σ H Q I h => wpAny_Call_Name_kw (ld_glob I hg hm ?_ hdb)⟩
  refine PySem.W.callWith_KW0 (h₀ := X.base) I.ok.mod.kin hk hall ?_ hpl
  refine thn (hkw.run pos pins s σ H _ I h) ?_
  rintro ws s2 ⟨zs, H2, I2, rz, q2⟩
  refine ⟨I2.kIn, ?_⟩
  rw [hks]
  exact run_fnk F hr hb hx I2 .nil rz q2
/-- repr of data that stands at an address -/
theorem call_repr (hgu : X.A.guards = some []) (hu : X.A.units + 70 < cLine) : CallR X (.builtin "repr")
    (fun xs H Q => ∃ (a : Addr) (d : PyData), xs = [.ref a] ∧ Dp X.K H (.ref a) d ∧ d.showable = true ∧ d.hasDict = false ∧
      d.depth ≤ 64 ∧ d.shown.length ≤ sizeLine ∧ Q (.str d.shown) H) := by
  intro pins s σ H xs us Q I r h
  obtain ⟨a, d, rfl, hD, hs, hn, hd, hz, q⟩ := h
  obtain ⟨u, rfl, rx⟩ := vals1 r
  obtain ⟨as, rr⟩ := Dp.reads I d _ u hD rx
  cases rx
  refine repr_of_reads' rr hs (fun z => by rw [hn] at z; cases z) hgu (by omega) (fun _ _ z => z) ?_ hz
  intro h' u tk kp
  exact ⟨.str _, H, I.kept kp, ⟨_, rfl⟩, q⟩
/-- tuple(text) -/
theorem call_tupS : CallR X (.type "tuple") (fun xs H Q => ∃ z : Str, xs = [.str z] ∧ X.A.handled = none ∧ z.cps.size ≤ sizeLine ∧
      ∀ l, H l = none → Q (.ref l) (upd H l (.tup (z.cps.toList.map fun c => V.str ⟨#[c]⟩)))) := by
  intro pins s σ H xs us Q I r h
  obtain ⟨z, rfl, hh, hz, q⟩ := h
  obtain ⟨u, rfl, t, rfl⟩ := vals1 r
  refine call_tuple_str hh z t ?_ hz
  intro h' tk acc kp hacc
  have I1 : Inv X pins σ H { s with heap := h', toks := tk } := I.kept kp
  have rv : Vals (z.cps.toList.map fun c => V.str ⟨#[c]⟩) acc.toList := by
    have key : ∀ (cs : List Nat) (us : List Value), us.length = cs.length →
        (∀ (j : Nat) (v : Value), us[j]? = some v → ∃ c u, cs[j]? = some c ∧ v = Value.str ⟨#[c]⟩ u) → Vals (cs.map fun c => V.str ⟨#[c]⟩) us := by
      intro cs
      induction cs with
      | nil =>
        intro us hl _
        match us, hl with
        | [], _ => exact .nil
      | cons c cs ih =>
        intro us hl hv
        match us, hl with
        | u :: us, hl =>
          obtain ⟨c', w', e1, e2⟩ := hv 0 u rfl
          cases e1
          exact .cons ⟨w', e2⟩ (ih us (by simpa using hl) fun j v hj => hv (j + 1) v hj)
    refine key _ _ (by simpa using hacc.1) fun j v hj => ?_
    obtain ⟨c, u, e1, e2⟩ := hacc.2 j v (by simpa using hj)
    exact ⟨c, u, by simpa using e1, e2⟩
  refine ⟨.ref h'.objs.size, _, I1.laid (t' := tk) (fun b o e => Heap.get?_push_of_some _ e) (Nat.le_refl _) ?_, rfl, q _ (I1.hok.fresh (Nat.le_refl _))⟩
  refine (show ObjOk X.prog X.w _ _ _ (.tup _) from ⟨by simpa using hz, acc.toList, rv, ?_⟩)
  rw [show acc.toList.toArray = acc from by simp]
  exact ⟨_, Heap.get?_push_size _ rfl, rfl, _, rfl⟩
end

theorem hu70 {A : Around} {k : Nat} (hr : Room k A) : A.units + 70 < cLine := by have := hr.un; omega
/-! ### the law's end: the caller has no repr under way -/
theorem law_callG {P : Program} {w : World} {K : PySem.W.Frag} {mg mb : Str → Option Value} {CX : CXT} {k : Nat}
    {fa a : Addr} {fd : FuncData} {x : Str} {sp : Sp} {s₁ : Shared} {us : List Value} {ns : List Int}
    (kin : K.In s₁.heap) (hns : s₁.heap.Ns mainGlobals mg) (hbn : s₁.heap.Ns builtinsNs mb)
    (hbb : ∀ x : Str, x ≠ "__name__" → mb x = bootBuiltins x) (nol : s₁.heap.NoLimit) (hge : s₁.gens = #[])
    (ha : s₁.heap.get? a = some { cls := .type "list", data := .seq us.toArray }) (hi : IntsAre us ns)
    (hl : ns.length ≤ sizeLine) (hr : Room k callerA)
    (F : ∀ base : Heap, K.In base → base.Ns mainGlobals mg → FnG P w K mg base CX k fa fd [x] sp)
    (hbi : ∀ (s : Shared) (u : Value), BindsTo s fd ⟨[u], []⟩ [(x, u)])
    (hsp : ∀ H : Hp, Only H → SqL K H a (ns.map V.int) → sp [.ref a] H (fun v _ => v = .bl true) fun _ _ _ => False)
    (hCX : ∀ H e s', CX [] H s₁ (fun _ _ _ => False) e s' → False) :
    codeAny (model P w) callerA (.call (.ref fa) ⟨[.ref a], []⟩)
      (fun r s' => r = .ok (.ret (.bool true)) ∧ OldK s₁.heap s'.heap ∧ s'.os = s₁.os ∧ AllBare s'.gens) s₁ := by
  have rv := vals_ints hi
  have main : ∀ H : Hp, Only H → SqL K H a (ns.map V.int) → HOk P w H s₁.heap → (∀ b, H b ≠ none → b = a) →
      (H a ≠ none → K.lookup a = none) → codeAny (model P w) callerA (.call (.ref fa) ⟨[.ref a], []⟩)
      (fun r s' => r = .ok (.ret (.bool true)) ∧ OldK s₁.heap s'.heap ∧ s'.os = s₁.os ∧ AllBare s'.gens) s₁ := by
    intro H hO hS hok hA hK
    have only : ∀ {b : Addr} {u : HO}, H b = some u → b = a := fun {b u} q => hA b (by rw [q]; simp)
    have nodict : ∀ {b : Addr} {o : Obj} {es : Array DictEntry} {ep : Nat}, s₁.heap.get? b = some o → o.data = .dict es ep → H b = none := by
      intro b o es ep q d
      cases hq : H b with
      | none => rfl
      | some u =>
        cases only hq
        rw [ha] at q; cases q; cases d
    have ns2 : ∀ {b : Addr} {m : Str → Option Value}, s₁.heap.Ns b m → (hidT s₁.heap H).Ns b m := by
      rintro b m ⟨o, es, ep, q, d, r⟩
      exact ⟨o, es, ep, hidT_get q (nodict q d), d, r⟩
    have kb : K.In (hidT s₁.heap H) := by
      intro b o q
      refine hidT_get (kin b o q) ?_
      cases hq : H b with
      | none => rfl
      | some u =>
        cases only hq
        rw [hK (by rw [hq]; simp)] at q; cases q
    obtain ⟨mc, h1, h2⟩ := nol
    have e0 : Env0 P w K mg (hidT s₁.heap H) callerA [] s₁ H :=
      { frames := rfl, mod := ⟨kb, ns2 hns, ⟨mb, ns2 hbn, hbb⟩, ⟨mc, ns2 h1, h2⟩⟩, bs := fun b o q => of_hidT q
        bsz := Nat.le_of_eq (hidT_size _ _), funs := trivial, frf := (fun b z => nomatch z), hok := hok, bare := .of_eq hge }
    refine codeAny_mono ((F _ kb (ns2 hns)).runs callerA [] s₁ H ⟨[.ref a], []⟩ [.ref a] [.ref a] _ _ rfl hr e0 (hbi s₁ (.ref a)) (.cons rfl .nil) (hsp H hO hS)) ?_
    intro r s' h
    match r, h with
    | .error e, h => exact (hCX H e s' h).elim
    | .ok .next, h => exact False.elim h
    | .ok .brk, h => exact False.elim h
    | .ok .cont, h => exact False.elim h
    | .ok (.ret u), ⟨v, H', os, bare, un, hok', rr, q⟩ =>
      have q1 : v = .bl true := q
      subst q1
      have q2 : u = Value.bool true := rr
      subst q2
      refine ⟨rfl, OldK.of_keep ?_, os, bare⟩
      intro b o e
      cases hq : H b with
      | none => exact un.keep b o e hq (fun z => nomatch z) (fun z => nomatch z)
      | some u =>
        rcases hO b with z | ⟨ob, xs, z⟩
        · rw [hq] at z; cases z
        · have e1 := (hok b _ z).1
          have e2 := (hok' b _ (un.frzs b ob _ z)).1
          rw [e] at e1; cases e1
          exact e2
  have lenV := hi.length
  cases hk : K.lookup a with
  | some o =>
    have e := kin a o hk
    rw [ha] at e
    cases e
    refine main (fun _ => none) (fun _ => .inl rfl) (.inr ⟨_, us.toArray, _, hk, rfl, rfl, rfl, ?_, by simpa using rv⟩) (fun b u z => nomatch z) (fun b z => absurd rfl z) fun z => absurd rfl z
    rw [List.size_toArray, lenV]; exact hl
  | none =>
    have only1 : ∀ b, ¬ b = a → (if b = a then some (HO.frz { cls := .type "list", data := .seq us.toArray } (.lst (ns.map V.int))) else none) = none := fun b h => if_neg h
    refine main (fun b => if b = a then some (.frz { cls := .type "list", data := .seq us.toArray } (.lst (ns.map V.int))) else none) ?_ (.inl (.inr ⟨_, if_pos rfl⟩)) ?_ ?_ fun _ => hk
    · intro b
      by_cases hb : b = a
      · exact .inr ⟨_, _, if_pos hb⟩
      · exact .inl (if_neg hb)
    · intro b u z
      by_cases hb : b = a
      · have z2 := (if_pos hb).symm.trans z
        cases z2
        subst hb
        exact ⟨ha, by rw [List.length_map]; exact hl, us, _, rv, ha⟩
      · have z2 := (if_neg hb).symm.trans z
        cases z2
    · intro b z
      exact Decidable.byContradiction fun hb => z (if_neg hb)
theorem walkG {l : PySem.W.OpenLaw} {n k : Nat} {q : Program} {loose : List Str} {XP : (Str → Option Value) → Heap → Prop}
    {YP : World → Heap → Prop} {d : DefRec} {K : Params → PySem.W.Frag} {CX : World → CXT} {sp : World → Sp} {x : Str}
    (hn : l.most = some n) (hn2 : n ≤ sizeLine) (hdf : d.params.defaults = []) (hr : Room k callerA)
    (hY : ∀ (w : World) (h : Heap), YP w h → (K w.params).In h)
    (F : ∀ (w : World) (mg : Str → Option Value) (fa : Addr) (h : Heap), (K w.params).In h → h.Ns mainGlobals mg →
      mg d.name = some (.ref fa) → ∃ fd : FuncData, (∀ (s : Shared) (u : Value), BindsTo s fd ⟨[u], []⟩ [(x, u)]) ∧
        ∀ base : Heap, (K w.params).In base → base.Ns mainGlobals mg → FnG l.prog w (K w.params) mg base (CX w) k fa fd [x] (sp w))
    (hsp : ∀ (w : World) (H : Hp) (a : Addr) (ns : List Int), ns.length ≤ n → Only H → SqL (K w.params) H a (ns.map V.int) →
      sp w [.ref a] H (fun v _ => v = .bl true) fun _ _ _ => False)
    (hCX : ∀ (w : World) (H : Hp) (s : Shared) (e : Value) (s' : Shared), CX w [] H s (fun _ _ _ => False) e s' → False) :
    PySem.W.WalkO q loose XP YP l.row.toRowW d [] (fun f vs => PySem.call f vs) := by
  refine Att.attach_call hn hdf ?_
  intro w s₀ s₁ mg mb fa o pm cd doc a us ns G Y ho hd hcd hmg hobj hints hlen hg
  have kin := hY w _ Y
  obtain ⟨fd, hb, hF⟩ := F w mg fa _ kin G.T.g hmg
  exact law_callG kin G.T.g G.T.b G.T.builtins G.T.nolimit hg hobj hints (Nat.le_trans hlen hn2) hr hF hb
    (fun H hO hS => hsp w H a ns hlen hO hS) fun H e s' => hCX w H s₁ e s'
end Sn

/-! ## Words, names and paths, in plain Lean -/
namespace Sn
open PySem PySem.Spec PyProof.Rows L2 TL

def sgnS : Str := "abcdefghijklmnopqrstuvwxyz0123456789_"
def letS : Str := "abcdefghijklmnopqrstuvwxyz"
def resv : List Str := ["as", "ask", "call", "def", "each", "else", "entry", "except", "fail", "if", "in", "let", "offer", "return",
  "set", "table", "there", "try", "use"]
/-- a word: at most eight signs, all of them out of the alphabet -/
def isW (z : Str) : Bool := decide (z.length ≤ 8) && (tl z).all fun c => decide (c ∈ tl sgnS)
/-- its first sign is a letter -/
def fstL (z : Str) : Bool := match tl z with
  | [] => false
  | c :: _ => decide (c ∈ tl letS)
def isN (z : Str) : Bool := isW z && (fstL z && !decide (z ∈ resv))
def isP (z : Str) : Bool := decide ((Txt.split z ".").length = 2) && (Txt.split z ".").all isN

/-! ### a value that is one of some texts -/
theorem inV_strs (z : Str) : ∀ l : List Str, inV (.str z) (l.map V.str) = decide (z ∈ l)
  | [] => rfl
  | x :: l => by
    show ((x == z) || inV (.str z) (l.map V.str)) = _
    rw [inV_strs z l]
    by_cases h : z = x
    · subst h; simp
    · have h2 : (x == z) = false := by simpa using fun e => h e.symm
      rw [h2, Bool.false_or]
      exact decide_eq_decide.mpr ⟨fun q => List.mem_cons.mpr (.inr q), fun q => (List.mem_cons.mp q).resolve_left h⟩
theorem flat_strs : ∀ l : List Str, (l.map V.str).all flatV = true
  | [] => rfl
  | x :: l => by
    show (true && (l.map V.str).all flatV) = true
    rw [flat_strs l]; rfl
theorem signs_map (l : List Nat) : (l.map fun c => V.str ⟨#[c]⟩) = ((l.map fun c => (⟨#[c]⟩ : Str)).map V.str) := by
  rw [List.map_map]; rfl
theorem cut1 (z : Str) : tl (cutS z none (some 1)) = (tl z).take 1 := by
  unfold cutS
  rw [show HT.sIx z.length z.length (some 1) = min 1 z.length from HT.sIx_nat _ _ 1, HT.sIx_none]
  show ((tl z).drop 0).take (min 1 z.length - 0) = _
  rw [List.drop_zero, Nat.sub_zero, len_tl, List.take_eq_take_iff]
  omega
theorem one_inj {c : Nat} {l : List Nat} : (⟨#[c]⟩ : Str) ∈ l.map (fun c => (⟨#[c]⟩ : Str)) ↔ c ∈ l := by
  constructor
  · intro h
    obtain ⟨x, hx, e⟩ := List.mem_map.mp h
    injection e with e
    have : x = c := by injection (congrArg Array.toList e)
    exact this ▸ hx
  · intro h; exact List.mem_map.mpr ⟨c, h, rfl⟩
/-- value[:1] in tuple(LETTERS) -/
theorem fst_in (z : Str) : inV (.str (cutS z none (some 1))) ((tl letS).map fun c => V.str ⟨#[c]⟩) = fstL z := by
  rw [signs_map, inV_strs]
  unfold fstL
  have h := cut1 z
  match e : tl z with
  | [] =>
    rw [e] at h
    rw [decide_eq_false_iff_not]
    intro hm
    obtain ⟨x, _, e2⟩ := List.mem_map.mp hm
    rw [← e2] at h
    cases h
  | c :: r =>
    rw [e] at h
    have e2 : cutS z none (some 1) = ⟨#[c]⟩ := ext_tl h
    rw [e2]
    exact decide_eq_decide.mpr one_inj

/-! ### the two readings of a path -/
theorem spl_ne (S : List Nat) : ∀ (l : List Nat) (k : Nat) (acc : List Nat), spl S k acc l ≠ []
  | [], k, acc => by rw [spl_nil]; simp
  | c :: r, 0, acc => by
    unfold spl
    split
    · simp
    · exact spl_ne S r 0 _
  | c :: r, k + 1, acc => by
    unfold spl
    exact spl_ne S r k acc
theorem cut_at {x : Nat} : ∀ {l : List Nat}, x ∈ l → ∃ a b, l = a ++ x :: b ∧ x ∉ a
  | y :: l, h => by
    by_cases e : x = y
    · exact ⟨[], l, by rw [e]; rfl, by simp⟩
    · have h2 : x ∈ l := by
        rcases List.mem_cons.mp h with q | q
        · exact absurd q e
        · exact q
      obtain ⟨a, b, e1, e2⟩ := cut_at h2
      exact ⟨y :: a, b, by rw [e1]; rfl, by
        intro q
        rcases List.mem_cons.mp q with q | q
        · exact e q
        · exact e2 q⟩
def dotS : Str := "."
theorem tl_dot : tl dotS = [46] := by decide +kernel
theorem dot_eq : dotS = ⟨#[46]⟩ := by decide +kernel
theorem split_tl (z : Str) : (Txt.split z dotS).map tl = spl [46] 0 [] (tl z) := by
  have h := split_spl z dotS (by rw [tl_dot]; simp) (kind_ok (by decide +kernel))
  rw [tl_dot] at h
  exact h
theorem spl_le (S : List Nat) : ∀ (l : List Nat) (k : Nat) (acc q : List Nat), q ∈ spl S k acc l → q.length ≤ acc.length + l.length
  | [], k, acc, q, h => by
    rw [spl_nil] at h
    rw [List.mem_singleton.mp h]; simp
  | c :: r, 0, acc, q, h => by
    unfold spl at h
    split at h
    · rcases List.mem_cons.mp h with h | h
      · rw [h]; simp
      · have := spl_le S r _ _ q h
        simp only [List.length_nil, List.length_cons] at this ⊢
        omega
    · have := spl_le S r _ _ q h
      simp only [List.length_append, List.length_cons, List.length_nil] at this ⊢
      omega
  | c :: r, k + 1, acc, q, h => by
    unfold spl at h
    have := spl_le S r _ _ q h
    simp only [List.length_cons]
    omega
theorem split_le (z : Str) : ∀ y ∈ Txt.split z dotS, y.length ≤ z.length := by
  intro y hy
  have h : tl y ∈ spl [46] 0 [] (tl z) := by
    rw [← split_tl]
    exact List.mem_map.mpr ⟨y, hy, rfl⟩
  have := spl_le _ _ _ _ _ h
  rw [len_tl, len_tl z]
  simpa using this
theorem split_no {z : Str} (h : 46 ∉ tl z) : Txt.split z dotS = [z] := by
  apply map_tl_inj
  rw [split_tl, spl_last1 h]
  rfl
theorem split_one {z : Str} {a b : List Nat} (e : tl z = a ++ 46 :: b) (h : 46 ∉ a) :
    (Txt.split z dotS).map tl = a :: spl [46] 0 [] b := by
  rw [split_tl, e]
  exact spl_part1 (s := 46) (S := []) (p := a) (rest := b) (acc := []) h
theorem find_dot {z : Str} {a b : List Nat} (e : tl z = a ++ 46 :: b) (h : 46 ∉ a) : Txt.find z dotS = (a.length : Int) := by
  have ne : tl dotS ≠ [] := by rw [tl_dot]; simp
  have hit : StrLaws.At z dotS z.length a.length := by
    refine (at_iff ne _).mpr ?_
    rw [tl_dot, e, List.drop_left]
    show (List.take 1 (46 :: b) == [46]) = true
    simp
  have miss : ∀ k, k < a.length → ¬ StrLaws.At z dotS z.length k := by
    intro k hk hA
    have q := (at_iff ne k).mp hA
    rw [tl_dot, e, free_of h k hk] at q
    cases q
  rcases find_whole z dotS with ⟨_, h2⟩ | ⟨i, h1, h2, h3⟩
  · exact absurd hit (h2 _)
  · rw [h1]
    by_cases hlt : i < a.length
    · exact absurd h2 (miss i hlt)
    · by_cases hgt : a.length < i
      · exact absurd hit (h3 _ hgt)
      · rw [show i = a.length by omega]
theorem cut_lo {z : Str} {a b : List Nat} (e : tl z = a ++ 46 :: b) : tl (cutS z none (some (a.length : Int))) = a := by
  unfold cutS
  rw [HT.sIx_nat, HT.sIx_none]
  show ((tl z).drop 0).take (min a.length z.length - 0) = a
  rw [len_tl, e, List.drop_zero, Nat.sub_zero, List.length_append, Nat.min_eq_left (Nat.le_add_right _ _), List.take_left]
theorem cut_hi {z : Str} {a b : List Nat} (e : tl z = a ++ 46 :: b) : tl (cutS z (some ((a.length : Int) + 1)) none) = b := by
  unfold cutS
  rw [show ((a.length : Int) + 1) = ((a.length + 1 : Nat) : Int) from rfl, HT.sIx_nat, HT.sIx_none]
  show ((tl z).drop (min (a.length + 1) z.length)).take (z.length - min (a.length + 1) z.length) = b
  rw [len_tl, e]
  have hl : min (a.length + 1) (a ++ 46 :: b).length = a.length + 1 := by
    rw [List.length_append, List.length_cons]; omega
  rw [hl, show a ++ 46 :: b = (a ++ [46]) ++ b by simp]
  have h2 : (a ++ [46]).length = a.length + 1 := by simp
  rw [← h2, List.drop_left, List.length_append, Nat.add_sub_cancel_left, List.take_length]
theorem cnt_app (c : Nat) : ∀ l r : List Nat, cnt c (l ++ r) = cnt c l + cnt c r := cnt_append c
/-- the law's own reading of a path -/
def lawP (z : Str) : Bool := if Txt.count z dotS = 1 then isN (cutS z none (some (Txt.find z dotS))) && isN (cutS z (some (Txt.find z dotS + 1)) none) else false
theorem cnt_nonneg (c : Nat) : ∀ l : List Nat, 0 ≤ cnt c l
  | [] => by rw [cnt_nil]; exact Int.le_refl 0
  | x :: l => by
    have h := cnt_nonneg c l
    rw [cnt_cons]
    split <;> omega
theorem cnt_free {c : Nat} {l : List Nat} (h : c ∉ l) : cnt c l = 0 := cnt_none c l h
theorem cnt_dot : cnt 46 [46] = 1 := by rw [cnt_cons, cnt_nil]; simp
theorem path_law (z : Str) : lawP z = isP z := by
  unfold lawP isP
  rw [show (Str.ofString "." : Str) = dotS from rfl]
  have hc : Txt.count z dotS = cnt 46 (tl z) := by rw [dot_eq]; exact count_cnt z 46
  by_cases h : 46 ∈ tl z
  · obtain ⟨a, b, e, na⟩ := cut_at h
    have c1 : cnt 46 (tl z) = 1 + cnt 46 b := by
      rw [e, show a ++ 46 :: b = a ++ ([46] ++ b) from rfl, cnt_app, cnt_app, cnt_free na, cnt_dot]
      omega
    have sp := split_one e na
    by_cases hb : 46 ∈ b
    · obtain ⟨b1, b2, e2, nb⟩ := cut_at hb
      have c2 : cnt 46 b = 1 + cnt 46 b2 := by
        rw [e2, show b1 ++ 46 :: b2 = b1 ++ ([46] ++ b2) from rfl, cnt_app, cnt_app, cnt_free nb, cnt_dot]
        omega
      have := cnt_nonneg 46 b2
      rw [if_neg (by omega)]
      have sp2 : spl [46] 0 [] b = b1 :: spl [46] 0 [] b2 := by
        rw [e2]
        exact spl_part1 (s := 46) (S := []) (p := b1) (rest := b2) (acc := []) nb
      have hl : (Txt.split z dotS).length ≠ 2 := by
        intro q
        have q2 := congrArg List.length sp
        rw [List.length_map, q, sp2] at q2
        have q3 : (spl [46] 0 [] b2).length = 0 := by
          simp only [List.length_cons] at q2
          omega
        exact spl_ne _ _ _ _ (List.length_eq_zero_iff.mp q3)
      rw [decide_eq_false hl, Bool.false_and]
    · have c2 : cnt 46 b = 0 := cnt_free hb
      rw [if_pos (by omega), find_dot e na]
      have sp2 : spl [46] 0 [] b = [b] := spl_last1 (s := 46) (S := []) (p := b) (acc := []) hb
      have e1 : Txt.split z dotS = [cutS z none (some (a.length : Int)), cutS z (some ((a.length : Int) + 1)) none] := by
        apply map_tl_inj
        rw [sp, sp2]
        show [a, b] = [tl _, tl _]
        rw [cut_lo e, cut_hi e]
      rw [e1]
      simp
  · have c0 : cnt 46 (tl z) = 0 := cnt_free h
    rw [if_neg (by omega), split_no h]
    rfl

/-! ### drawn names -/
def sufS : List Str := ["s", "_", "1", "a"]
theorem near_ok : ∀ r ∈ resv, ∀ x ∈ sufS, isN (r ++ x) = true := by decide +kernel
theorem resv_len : ∀ r ∈ resv, r.length ≤ 6 := by decide +kernel
theorem suf_len : ∀ r ∈ sufS, r.length ≤ 1 := by decide +kernel
theorem resv_no : ∀ r ∈ resv, 95 ∉ tl r := by decide +kernel
theorem let_sgn : ∀ c ∈ tl letS, c ∈ tl sgnS := by decide +kernel
theorem und_sgn : 95 ∈ tl sgnS := by decide +kernel
theorem isN_len {z : Str} (h : isN z = true) : z.length ≤ 8 := by
  unfold isN isW at h
  simp only [Bool.and_eq_true, decide_eq_true_eq] at h
  exact h.1.1
theorem isN_res {z : Str} (h : isN z = true) : z ∉ resv := by
  unfold isN at h
  simp only [Bool.and_eq_true, Bool.not_eq_true', decide_eq_false_iff_not] at h
  exact h.2.2
theorem isN_of {z : Str} {c : Nat} {r : List Nat} (e : tl z = c :: r) (hc : c ∈ tl letS) (hr : ∀ x ∈ r, x ∈ tl sgnS) (hl : r.length ≤ 7) (hn : z ∉ resv) : isN z = true := by
  have h1 : isW z = true := by
    unfold isW
    rw [len_tl, e]
    simp only [Bool.and_eq_true, decide_eq_true_eq, List.length_cons, List.all_cons, List.all_eq_true]
    exact ⟨by omega, let_sgn c hc, hr⟩
  have h2 : fstL z = true := by
    unfold fstL
    rw [e]
    exact decide_eq_true hc
  unfold isN
  rw [h1, h2, decide_eq_false hn]; rfl
theorem cut7 (z : Str) : tl (cutS z none (some 7)) = (tl z).take 7 := by
  unfold cutS
  rw [show HT.sIx z.length z.length (some 7) = min 7 z.length from HT.sIx_nat _ _ 7, HT.sIx_none]
  show ((tl z).drop 0).take (min 7 z.length - 0) = _
  rw [List.drop_zero, Nat.sub_zero, len_tl, List.take_eq_take_iff]
  omega
theorem isN_cut {z : Str} {c : Nat} {r : List Nat} (e : tl z = c :: r) (hc : c ∈ tl letS) (hr : ∀ x ∈ r, x ∈ tl sgnS) : isN (cutS z none (some 7) ++ "_") = true := by
  have e2 : tl (cutS z none (some 7) ++ "_") = c :: (r.take 6 ++ [95]) := by
    rw [tl_append, cut7, e, show tl ("_" : Str) = [95] by decide +kernel]; rfl
  refine isN_of e2 hc (fun x hx => ?_) (by rw [List.length_append, List.length_take]; show min 6 r.length + 1 ≤ 7; omega) fun hm => ?_
  · rcases List.mem_append.mp hx with h | h
    · exact hr x (List.mem_of_mem_take h)
    · rw [List.mem_singleton.mp h]; exact und_sgn
  · exact resv_no _ hm (by rw [e2]; simp)
theorem join_signs : ∀ l : List Nat, tl (Txt.join "" (l.map fun c => (⟨#[c]⟩ : Str))) = l := by
  intro l
  rw [join_eq, tl_join, List.map_map]
  have e : tl ("" : Str) = [] := by decide +kernel
  rw [e]
  have key : ∀ l : List Nat, joinL [] (l.map (tl ∘ fun c => (⟨#[c]⟩ : Str))) = l := by
    intro l
    induction l with
    | nil => rfl
    | cons a r ih =>
      cases r with
      | nil => rfl
      | cons b r =>
        show [a] ++ ([] ++ joinL [] _) = a :: b :: r
        rw [List.nil_append]
        exact congrArg (a :: ·) ih
  exact key l
end Sn

/-! ## Sorted texts without repetition -/
namespace Sn
open PySem PySem.Spec PyProof.Rows L2 TL
def ltS (a b : Str) : Prop := ltCps (tl a) (tl b) = true
theorem lt_irr : ∀ l : List Nat, ltCps l l = false
  | [] => rfl
  | a :: r => by simp [ltCps, lt_irr r]
theorem lt_trans : ∀ {a b c : List Nat}, ltCps a b = true → ltCps b c = true → ltCps a c = true
  | [], [], _, h, _ => by simp [ltCps] at h
  | [], _ :: _, [], _, h => by simp [ltCps] at h
  | [], _ :: _, _ :: _, _, _ => by simp [ltCps]
  | _ :: _, [], _, h, _ => by simp [ltCps] at h
  | _ :: _, _ :: _, [], _, h => by simp [ltCps] at h
  | x :: a, y :: b, z :: c, h, k => by
    simp only [ltCps, Bool.or_eq_true, Bool.and_eq_true, decide_eq_true_eq, beq_iff_eq] at h k ⊢
    rcases h with h | ⟨e, h⟩ <;> rcases k with k | ⟨e2, k⟩
    · exact .inl (by omega)
    · exact .inl (by omega)
    · exact .inl (by omega)
    · exact .inr ⟨by omega, lt_trans h k⟩
theorem lt_tri : ∀ {a b : List Nat}, ltCps a b = false → ltCps b a = false → a = b
  | [], [], _, _ => rfl
  | [], _ :: _, h, _ => by simp [ltCps] at h
  | _ :: _, [], _, h => by simp [ltCps] at h
  | x :: a, y :: b, h, k => by
    simp only [ltCps, Bool.or_eq_false_iff, Bool.and_eq_false_iff, decide_eq_false_iff_not, beq_eq_false_iff_ne] at h k
    have e : x = y := by omega
    subst e
    rw [lt_tri (h.2.resolve_left (by simp)) (k.2.resolve_left (by simp))]
/-- strictly rising -/
abbrev Ris (l : List Str) : Prop := l.Pairwise ltS
theorem ris_of : ∀ (l : List Str), sortedS l = true → l.Nodup → Ris l
  | [], _, _ => .nil
  | [a], _, _ => List.pairwise_singleton _ _
  | a :: b :: r, h, n => by
    have h1 : risingS a (b :: r) = true := h
    unfold risingS at h1
    simp only [Bool.and_eq_true, Bool.not_eq_true'] at h1
    have n2 := List.nodup_cons.mp n
    have ih := ris_of (b :: r) h1.2 n2.2
    have hab : ltS a b := by
      unfold ltS
      cases e : ltCps (tl a) (tl b) with
      | true => rfl
      | false => exact absurd (ext_tl (lt_tri e h1.1)) (fun q => n2.1 (q ▸ List.mem_cons.mpr (.inl rfl)))
    refine List.pairwise_cons.mpr ⟨fun x hx => ?_, ih⟩
    rcases List.mem_cons.mp hx with rfl | hx
    · exact hab
    · exact lt_trans hab ((List.pairwise_cons.mp ih).1 x hx)
theorem ris_eq : ∀ {l r : List Str}, Ris l → Ris r → (∀ z, z ∈ l ↔ z ∈ r) → l = r
  | [], [], _, _, _ => rfl
  | [], b :: r, _, _, h => absurd ((h b).mpr (List.mem_cons.mpr (.inl rfl))) (by simp)
  | a :: l, [], _, _, h => absurd ((h a).mp (List.mem_cons.mpr (.inl rfl))) (by simp)
  | a :: l, b :: r, p, q, h => by
    have p1 := List.pairwise_cons.mp p
    have q1 := List.pairwise_cons.mp q
    have irr : ∀ x : Str, ¬ ltS x x := fun x e => by unfold ltS at e; rw [lt_irr] at e; cases e
    have e : a = b := by
      rcases List.mem_cons.mp ((h a).mp (List.mem_cons.mpr (.inl rfl))) with e | h1
      · exact e
      · rcases List.mem_cons.mp ((h b).mpr (List.mem_cons.mpr (.inl rfl))) with e | h2
        · exact e.symm
        · exact absurd (lt_trans (p1.1 b h2) (q1.1 a h1)) (irr a)
    subst e
    refine congrArg (a :: ·) (ris_eq p1.2 q1.2 fun z => ⟨fun hz => ?_, fun hz => ?_⟩)
    · rcases List.mem_cons.mp ((h z).mp (List.mem_cons.mpr (.inr hz))) with e | h1
      · exact absurd (e ▸ p1.1 z hz) (irr a)
      · exact h1
    · rcases List.mem_cons.mp ((h z).mpr (List.mem_cons.mpr (.inr hz))) with e | h1
      · exact absurd (e ▸ q1.1 z hz) (irr a)
      · exact h1
theorem ris_nodup {l : List Str} (h : Ris l) : l.Nodup := List.Pairwise.imp (fun {a b} q e => by subst e; unfold ltS at q; rw [lt_irr] at q; cases q) h
/-- the keys of a dict whose values do not matter: each once, in the order of their first coming -/
def once (l : List Str) : List Str := l.foldl (fun acc z => if z ∈ acc then acc else acc ++ [z]) []
end Sn

/-! ## Rules of our own: enumerate(tuple), own __len__, __contains__, operators, != -/
namespace Sn
open PySem PySem.Spec PyProof.Rows L2

/-! ### enumerate of a tuple -/
theorem enum_newT (l : Addr) (items : Array Value) (n : Nat) (dct : Option Addr) (sl : Array (Option Value)) :
    Meets (Builtin.«enumerate.__new__» ⟨[.type "enumerate", .ref l], []⟩) (fun _ R s =>
      s.heap.get? l = some { cls := .type "tuple", dict := dct, data := .seq items n, slots := sl } ∧
      R (.ok (.ret (.ref (s.heap.push { cls := .type "tuple_iterator", data := .fields #[.ref l, .int 0 0] }).objs.size)))
        { s with heap := (s.heap.push { cls := .type "tuple_iterator", data := .fields #[.ref l, .int 0 0] }).push { cls := .type "enumerate", data := .fields #[.none, .bool false, .ref s.heap.objs.size, rawInt 0, .none, .none] } }) :=
  .of_wp fun prog w A R s h => by
    obtain ⟨hp, g, d, tk, os⟩ := s
    obtain ⟨hl, h⟩ := h
    have hsub := sub_enumerate
    have hT : Heap.IsTuple (Shared.heap ⟨hp, g, d, tk, os⟩) l items := ⟨_, hl, rfl, n, rfl⟩
    wp_walk using AutoSeq1.wpAny_loadPart' hl
    refine wpAny_stack_any fun st => wpAny_pure ?_
    split
    · rename_i c _ _ _ _ _
      cases (c == Value.type "enumerate") <;> (wp_walk using AutoSeq1.wpAny_loadPart' hl, wpAny_pyIter_tuple hT; exact ⟨_, rfl, h⟩)
    · wp_walk using AutoSeq1.wpAny_loadPart' hl, wpAny_pyIter_tuple hT
      exact ⟨_, rfl, h⟩
section
variable {prog : Program} {w : World} {A : Around} {E : Value → Shared → Prop} {s : Shared}
theorem call_enumT {l : Addr} {items : Array Value} {Q : Value → Shared → Prop} (hL : s.heap.IsTuple l items)
    (h : ∀ h', IsEnum h' (s.heap.objs.size + 1) s.heap.objs.size 0 .none → h'.IsTupleIter s.heap.objs.size l 0 →
      h'.objs.size = s.heap.objs.size + 2 → (∀ b o, s.heap.get? b = some o → h'.get? b = some o) →
      Q (.ref (s.heap.objs.size + 1)) { s with heap := h' }) :
    wpAny (model prog w) A (call (.type "enumerate") [.ref l]) Q E s := by
  obtain ⟨⟨c, dct, dt, sl⟩, hl, hc, n, hd⟩ := hL
  have hc2 : c = .type "tuple" := hc
  have hd2 : dt = .seq items n := hd
  subst hc2 hd2
  refine callType_new F.called_enumerate (by decide) (F.typeCall_enumerate_1 _) (F.newCall_enumerate_1 _)
    (fun obj => F.args_object_init_2 obj _) F.entry_enumerate_new (enum_newT l items n dct sl) ⟨hl, ?_⟩
  generalize eo : ({ cls := .type "tuple_iterator", data := .fields #[.ref l, .int 0 0] } : Obj) = o1
  generalize ee : ({ cls := .type "enumerate", data := .fields #[.none, .bool false, .ref s.heap.objs.size, rawInt 0, .none, .none] } : Obj) = o2
  have hz : (s.heap.push o1).objs.size = s.heap.objs.size + 1 := Heap.size_push ..
  have g2 : ((s.heap.push o1).push o2).get? (s.heap.objs.size + 1) = some o2 := by
    have q := Heap.get?_push_size (s.heap.push o1) (o := o2) (by rw [← ee]; rfl)
    rw [hz] at q
    exact q
  have g1 : ((s.heap.push o1).push o2).get? s.heap.objs.size = some o1 :=
    Heap.get?_push_of_some _ (Heap.get?_push_size _ (by rw [← eo]; rfl))
  show _ ∧ _
  rw [hz]
  refine ⟨⟨o2, g2, by rw [← ee]⟩, h _ ?_ ⟨o1, g1, by rw [← eo], by rw [← eo]; rfl⟩ (by rw [Heap.size_push, hz]) fun b o q => Heap.get?_push_of_some _ (Heap.get?_push_of_some _ q)⟩
  show _ = some _
  rw [g2, ← ee]
end
def Iet (K : PySem.W.Frag) (a : Addr) : It :=
  ⟨fun i H => ∃ (xs : List V) (x : V), SqT K H a xs ∧ xs[i]? = some x,
   fun i H v H' => ∃ T x, v = .ref T ∧ H T = none ∧ H' = upd H T (.tup [.int (i : Nat), x]) ∧ ∀ xs, SqT K H a xs → xs[i]? = some x,
   fun i H => ∃ xs : List V, SqT K H a xs ∧ xs.length ≤ i⟩
theorem turn_enumT {P : Program} {w : World} {K : PySem.W.Frag} {elts : List Expr} {kk : Nat} {tpos : Pos} (a e it : Addr) :
    Turn P w K (.Tuple elts kk tpos) (Iet K a) [e, it] e (fun i h => (∃ old, IsEnum h e it ((i : Nat) : Int) old) ∧ h.IsTupleIter it a i ∧ e ≠ it ∧ a ≠ it ∧ e ≠ a) where
  mem := by simp
  obj := fun i h st b hb => by
    obtain ⟨⟨old, he⟩, ⟨o, ho, hc, hd⟩, _⟩ := st
    have e' : b = e ∨ b = it := by simpa using hb
    rcases e' with rfl | rfl
    · exact ⟨_, he, fun v q => nomatch q⟩
    · exact ⟨o, ho, fun v q => by rw [hd] at q; cases q⟩
  keep := fun i h h' st k => let ⟨⟨old, he⟩, hi, hne⟩ := st; ⟨⟨old, k e (by simp) _ he⟩, hi.at fun o q => k it (by simp) o q, hne⟩
  item := by
    intro X hP hw hK hc i pins s σ H E I hf st hg
    subst hP hw hK
    obtain ⟨⟨old, he⟩, hit, hne, hai, hea⟩ := st
    obtain ⟨xs, x, hq, hx⟩ := hg
    obtain ⟨its, rv, p, hz⟩ := I.tuple hq
    obtain ⟨u, hu, ru⟩ := rv.get hx
    have hel : e < s.heap.objs.size := Heap.lt_size he
    have hil : it < s.heap.objs.size := by obtain ⟨_, q, _⟩ := hit; exact Heap.lt_size q
    have hlt : i < its.toArray.size := by
      have := (List.getElem?_eq_some_iff.mp hu).1
      simpa using this
    have pT : s.heap.IsTuple a its.toArray := p
    refine wpAny_pyNext_enum_itemD (Draws.tuple (A := X.A.in1) (I.ok.hd hc) it a hai its.toArray) he ⟨hit, pT⟩ hlt hne (by simp [hne, hea]) ?_
    intro u2 h' tk hu2 ho st2 hT hsz hk
    have eu : u2 = u := by
      have q : its.toArray[i]? = some u := by simpa using hu
      exact Option.some.inj (hu2.symm.trans q)
    subst eu
    refine ⟨_, rfl, wpAny_letOwnedTupleGo_enum (s := { s with heap := h', toks := tk + 1 }) ho fun h2 he' sb => ?_⟩
    have hT2 : h2.get? s.heap.objs.size = some { cls := .type "tuple", data := .seq #[.int i tk, u2] } := (sb.2 _ (Nat.ne_of_gt hel)).trans hT
    have new : ObjOk X.prog X.w (upd H s.heap.objs.size (.tup [.int (i : Nat), x])) h2 s.heap.objs.size (.tup [.int (i : Nat), x]) :=
      ⟨by show 2 ≤ sizeLine; decide, [.int i tk, u2], .cons ⟨_, rfl⟩ (.cons ru .nil), ⟨_, hT2, rfl, _, rfl⟩⟩
    have I1 : Inv X pins σ (upd H s.heap.objs.size (.tup [.int (i : Nat), x])) { s with heap := h2, toks := tk + 1 } :=
      I.turnedNew (ch := [e, it]) (fun b ob hb q => (sb.2 b (fun z => hb (by simp [z]))).trans (hk b ob (fun z => hb (by simp [z])) (fun z => hb (by simp [z])) q)) hf (Nat.le_refl _) new
    refine ⟨.ref s.heap.objs.size, _, I1, rfl, ⟨_, x, rfl, I.hok.fresh (Nat.le_refl _), rfl, fun ys hy => by rw [I.tuple_inj hy hq]; exact hx⟩, ⟨⟨u2, ?_⟩, st2.1.at fun o q => (sb.2 it (Ne.symm hne)).trans q, hne, hai, hea⟩, fun b hb => ?_⟩
    · have e1 : ((i + 1 : Nat) : Int) = (i : Int) + 1 := by omega
      rw [e1]; exact he'
    · have e' : b = e ∨ b = it := by simpa using hb
      have hb' : b < s.heap.objs.size := by rcases e' with rfl | rfl <;> assumption
      rw [upd_ne (Nat.ne_of_lt hb')]
      exact (hf b hb).1
  done := by
    intro X hP hw hK hc i pins s σ H E I hf st hg
    subst hP hw hK
    obtain ⟨⟨old, he⟩, hit, hne, hai, hea⟩ := st
    obtain ⟨xs, hq, hx⟩ := hg
    obtain ⟨its, rv, p, hz⟩ := I.tuple hq
    obtain ⟨f0, f1, f2, f3, f4, f5⟩ := hf it (by simp)
    have hl := rv.length
    have pT : s.heap.IsTuple a its.toArray := p
    have hT : s.TypeIs (.ref e) "enumerate" := ⟨_, he, rfl⟩
    unfold pyNext
    refine wpAny_bind (wpAny_attempt (wpAny_callSpecial?_slot (name := Str.ofString "__next__") hT F.slot_enumerate_next
      (wpAny_call_entry F.slot_enumerate_next hT F.entry_enumerate_next ?_ (F.args_enumerate_next_1 _))))
    show wpAny _ _ (field (.ref e) 2 >>= _) _ _ _
    refine wpAny_bind (wpAny_field he rfl (x := .ref it) rfl (wpAny_bind (wpAny_nextOf_tuple_end (I.ok.hd hc) hit pT (by simp; omega) ?_)))
    intro h' y he' hx'
    obtain ⟨o, ho, hco⟩ := hx'
    refine wpAny_bind (wpAny_isInstance (T := "StopIteration") (b := true) ⟨o, ho, hco⟩ isSubtype_stop ?_)
    exact wpAny_pure ⟨rfl, I.turned (t' := s.toks) (fun b o hb q => he' b o hb q) f0 f1 f3 f4 f5⟩
  self := fun A i s Q E st h => let ⟨⟨_, he⟩, _⟩ := st; wpAny_pyIter_enum he h

def iEnumT (K : PySem.W.Frag) (ta : TA) : TI := fun σ H R => ta σ H fun vs H1 => ∃ a xs, vs = [.ref a] ∧ SqT K H1 a xs ∧ R (Iet K a) H1
theorem pi_enumT {X : Cx} {e : Expr} {ta : TA} {p pos tpos : Pos} {elts : List Expr} {kk : Nat} (hg : Gl X "enumerate") (hm : X.mg "enumerate" = none)
    (ha : PA X [e] ta) (hs : starEach [e] X.env = [(false, eval e X.env)] := by rfl) :
    PI X (.Tuple elts kk tpos) (.Call (.Name "enumerate" p) [e] [] pos) (iEnumT X.K ta) := by
  refine ⟨fun pins s σ H R I h => ?_⟩
  refine Call_ (ld_blt I hg hm boot_enumerate (PyProof.Rows.callWith_type1 (thn (ha.run pos pins s σ H _ I h) ?_) hs rfl))
  rintro us s1 ⟨vs, H1, I1, r1, a, xs, rfl, hq, q⟩
  match us, r1 with
  | [u], .cons r .nil =>
    cases r
    obtain ⟨its, rv, pt, hz⟩ := I1.tuple hq
    have alt : a < s1.heap.objs.size := by
      obtain ⟨o, ho, _⟩ := pt
      exact Heap.lt_size ho
    refine call_enumT pt fun h' he hit hsz hk => wpAny_pyIter_enum he ?_
    have I2 : Inv X pins σ H1 { s1 with heap := h' } := I1.kept (t' := s1.toks) hk
    refine ⟨s1.heap.objs.size + 1, [s1.heap.objs.size + 1, s1.heap.objs.size], _, _, H1, rfl, I2, turn_enumT a (s1.heap.objs.size + 1) s1.heap.objs.size,
      ⟨⟨.none, he⟩, hit, Nat.succ_ne_self _, Nat.ne_of_lt alt, Nat.ne_of_gt (Nat.lt_succ_of_lt alt)⟩, fun b hb => ?_, q⟩
    have hle : s1.heap.objs.size ≤ b := by
      have e' : b = s1.heap.objs.size + 1 ∨ b = s1.heap.objs.size := by simpa using hb
      rcases e' with rfl | rfl
      · exact Nat.le_add_right _ _
      · exact Nat.le_refl _
    exact I1.fpOk hle (I1.hok.fresh hle)
theorem walk_enumT {K : PySem.W.Frag} {a : Addr} {xs : List V} : Walk (Iet K a) xs.length (fun H => SqT K H a xs) (YPair (fun i => some (.int (i : Nat))) (fun i => xs[i]?)) := by
  refine ⟨fun i _ hi q => ⟨xs, xs[i], q, by simp [hi]⟩, fun _ q => ⟨xs, q, Nat.le_refl _⟩, fun i H v H' _ q y => ?_⟩
  obtain ⟨T, x, h1, h2, h3, h4⟩ := y
  exact ⟨T, .int (i : Nat), x, h1, h2, h3, rfl, h4 xs q⟩

/-! ### an own class's special methods -/
section
variable {X : Cx} {CX : CXT} {k : Nat} {f C : Addr} {fd : FuncData} {ps : List Str} {sp : Sp} {E : XK}
/-- an instance of C stands there -/
theorem inst_at {pins : List (Addr × Obj)} {σ : L2.St} {H : Hp} {s : Shared} {a dx : Addr} {fs : List (Str × V)} (I : Inv X pins σ H s) (h : H a = some (.ins C dx fs)) :
    ∃ ox od, PySem.W.InstAt s.heap a ox C od := by
  obtain ⟨mA, J, _⟩ := ins_get I.hok h
  obtain ⟨od, J, _⟩ := J.look
  exact ⟨_, _, J⟩
/-- x in o, by an own __contains__ -/
theorem own_in (F : FnOk X.prog X.w X.K X.mg X.base CX k f fd ps sp) (hr : Room k X.A) (hs : PySem.W.findIn X.K (.ref C) "__contains__" = some (some (.ref f)))
    (hf : PySem.W.isFn X.K (.ref f) = true) (hb : Binds X.K fd ps []) (hx : Passes CX X E) :
    OpR X (compareOp .In) (fun x y H Q => ∃ a dx fs, y = .ref a ∧ H a = some (.ins C dx fs) ∧ sp [y, x] H (fun v H' => ∃ b, v = .bl b ∧ Q (.bl b) H') E) := by
  intro pins s σ H x y v u Q I rx ry h
  obtain ⟨a, dx, fs, rfl, ha, q⟩ := h
  cases ry
  obtain ⟨ox, od, J⟩ := inst_at I ha
  obtain ⟨m, hF⟩ := I.fr
  refine PySem.W.in_K hF I.ok.mod.kin J hs hf ?_
  refine wpAny_mono (run_fn (us := [.ref a, v]) (vs := [.ref a, x]) F hr hb .nil hx I (.cons rfl (.cons rx .nil)) q) ?_ fun _ _ z => z
  rintro r s' ⟨z, H', I', rz, b, rfl, qq⟩
  cases rz
  exact wpAny_truthy_bool ⟨.bl b, H', I', rfl, qq⟩
/-- o op p, both of C, by an own operator -/
theorem own_bin {op : Operator} (F : FnOk X.prog X.w X.K X.mg X.base CX k f fd ps sp) (hr : Room k X.A) (hc : PySem.W.selfFirst X.K C = true)
    (hs : PySem.W.findIn X.K (.ref C) (PySem.dunder op.info.2) = some (some (.ref f))) (hf : PySem.W.isFn X.K (.ref f) = true) (hb : Binds X.K fd ps []) (hx : Passes CX X E) :
    OpR X (binaryOp op) (fun x y H Q => ∃ a b dx dy fs gs, x = .ref a ∧ y = .ref b ∧ H a = some (.ins C dx fs) ∧ H b = some (.ins C dy gs) ∧ sp [x, y] H Q E) := by
  intro pins s σ H x y v u Q I rx ry h
  obtain ⟨a, b, dx, dy, fs, gs, rfl, rfl, ha, hb', q⟩ := h
  cases rx
  cases ry
  obtain ⟨ox, od, J⟩ := inst_at I ha
  obtain ⟨oy, oe, J'⟩ := inst_at I hb'
  obtain ⟨m, hF⟩ := I.fr
  refine PySem.W.binop_K hF I.ok.mod.kin J J'.type hc hs hf ?_
  refine wpAny_mono (run_fn (us := [.ref a, .ref b]) (vs := [.ref a, .ref b]) F hr hb .nil hx I (.cons rfl (.cons rfl .nil)) q) ?_ fun _ _ z => z
  rintro r s' ⟨z, H', I', rz, qq⟩
  have fin : EP X pins σ Q r s' := ⟨z, H', I', rz, qq⟩
  cases r with
  | notImplemented => cases z <;> first | (cases rz; done) | (obtain ⟨t, e⟩ := rz; cases e)
  | _ => exact fin
/-- what runs one level deeper -/
theorem run_in1 {pins : List (Addr × Obj)} {σ : L2.St} {H : Hp} {s : Shared} {Q : VK} {us : List Value} {vs : List V} (F : FnOk X.prog X.w X.K X.mg X.base CX k f fd ps sp) (hr : Room (k + 1) X.A)
    (hb : Binds X.K fd ps []) (hx : Passes CX X E) (I : Inv X pins σ H s) (r : Vals vs us) (h : sp vs H Q E) :
    wpAny (model X.prog X.w) X.A.in1 (call (.ref f) us) (EP X pins σ Q) X.xe s := by
  have hl : (us ++ []).length = ps.length := by rw [List.append_nil, ← r.length]; exact F.len _ _ _ _ h
  have hbi := hb s us I.kIn hl
  rw [List.append_nil] at hbi
  refine wpAny_call (codeAny_mono (F.run X.A.in1 X.stack s H ⟨us, []⟩ us vs Q E hr.in1 I.env0.in1 hbi r h) ?_)
  intro r s' hq
  match r, hq with
  | .error e, hq => exact hx pins σ H s e s' I hq
  | .ok (.ret u), hq => exact I.after hq
  | .ok .next, hq => exact False.elim hq
  | .ok .brk, hq => exact False.elim hq
  | .ok .cont, hq => exact False.elim hq
/-- len(o), by an own __len__ -/
theorem own_len (F : FnOk X.prog X.w X.K X.mg X.base CX k f fd ps sp) (hr : Room (k + 1) X.A) (hs : PySem.W.findIn X.K (.ref C) "__len__" = some (some (.ref f)))
    (hf : PySem.W.isFn X.K (.ref f) = true) (hb : Binds X.K fd ps []) (hx : Passes CX X E) :
    CallR X (.builtin "len") (fun xs H Q => ∃ a dx fs, xs = [.ref a] ∧ H a = some (.ins C dx fs) ∧ sp [.ref a] H (fun v H' => ∃ n : Nat, n < 2 ^ 62 ∧ v = .int n ∧ Q (.int n) H') E) := by
  intro pins s σ H xs us Q I r h
  obtain ⟨a, dx, fs, rfl, ha, q⟩ := h
  obtain ⟨u, rfl, ru⟩ := vals1 r
  cases ru
  obtain ⟨ox, od, J⟩ := inst_at I ha
  obtain ⟨m, hF⟩ := I.fr
  refine PySem.W.len_K hF I.ok.mod.kin J hs hf ?_
  refine wpAny_mono (run_in1 (us := [.ref a]) (vs := [.ref a]) F hr hb hx I (.cons rfl .nil) q) ?_ fun _ _ z => z
  rintro r s' ⟨z, H', I', rz, n, hn, rfl, qq⟩
  obtain ⟨t, rfl⟩ := rz
  exact ⟨⟨by omega, by omega⟩, .int n, H', I'.tok _, ⟨_, rfl⟩, qq⟩
/-- o == p, both of C, by an own __eq__ -/
theorem own_eq (F : FnOk X.prog X.w X.K X.mg X.base CX k f fd ps sp) (hr : Room k X.A) (hs : PySem.W.findIn X.K (.ref C) "__eq__" = some (some (.ref f)))
    (hf : PySem.W.isFn X.K (.ref f) = true) (hb : Binds X.K fd ps []) (hx : Passes CX X E) :
    OpR X (compareOp .Eq) (fun x y H Q => ∃ a b dx dy fs gs, x = .ref a ∧ y = .ref b ∧ H a = some (.ins C dx fs) ∧ H b = some (.ins C dy gs) ∧ sp [x, y] H (fun v H' => ∃ b, v = .bl b ∧ Q (.bl b) H') E) := by
  intro pins s σ H x y v u Q I rx ry h
  obtain ⟨a, b, dx, dy, fs, gs, rfl, rfl, ha, hb', q⟩ := h
  cases rx
  cases ry
  obtain ⟨ox, od, J⟩ := inst_at I ha
  obtain ⟨oy, oe, J'⟩ := inst_at I hb'
  obtain ⟨m, hF⟩ := I.fr
  show wpAny (model X.prog X.w) X.A (richCompare .Eq (.ref a) (.ref b)) (EP X pins σ Q) X.xe s
  refine PySem.W.cmp_K (op := .Eq) (tb := .ref C) hr.units0 hF I.ok.mod.kin J J'.type (by simp [PySem.W.notFirst]) hs hf ?_
  refine wpAny_mono (run_fn (us := [.ref a, .ref b]) (vs := [.ref a, .ref b]) F hr hb .nil hx I (.cons rfl (.cons rfl .nil)) q) ?_ fun _ _ z => z
  rintro r s' ⟨z, H', I', rz, c, rfl, qq⟩
  cases rz
  exact ⟨.bl c, H', I', rfl, qq⟩
/-- o != p, both of C, by an own __eq__ and no own __ne__ -/
theorem own_ne (F : FnOk X.prog X.w X.K X.mg X.base CX k f fd ps sp) (hr : Room (k + 1) X.A) (hs : PySem.W.findIn X.K (.ref C) "__eq__" = some (some (.ref f)))
    (hn : PySem.W.findIn X.K (.ref C) "__ne__" = some (some (.builtin "object.__ne__"))) (hm : PySem.W.mroIn X.K C (.type "object") = some true)
    (hf : PySem.W.isFn X.K (.ref f) = true) (hb : Binds X.K fd ps []) (hx : Passes CX X E) :
    OpR X (compareOp .NotEq) (fun x y H Q => ∃ a b dx dy fs gs, x = .ref a ∧ y = .ref b ∧ H a = some (.ins C dx fs) ∧ H b = some (.ins C dy gs) ∧ sp [x, y] H (fun v H' => ∃ b, v = .bl b ∧ Q (.bl (!b)) H') E) := by
  intro pins s σ H x y v u Q I rx ry h
  obtain ⟨a, b, dx, dy, fs, gs, rfl, rfl, ha, hb', q⟩ := h
  cases rx
  cases ry
  obtain ⟨ox, od, J⟩ := inst_at I ha
  obtain ⟨oy, oe, J'⟩ := inst_at I hb'
  have KX := I.kIn
  have hu1 : X.A.units + 1 < cLine := by have := hr.un; omega
  have entry : ∀ (R : Fin → Shared → Prop), (∀ c s', EP X pins σ Q (.bool (!c)) s' → R (.done (.ret (.bool (!c)))) s') →
      wpAny (model X.prog X.w) X.A.in1 (Builtin.«object.__ne__» ⟨[.ref a, .ref b], []⟩) R X.xe s := by
    intro R hR
    unfold Builtin.«object.__ne__»
    refine wpAny_bind (m := slotArgs "__ne__" 1 _) (wpAny_pure ?_)
    refine wpAny_bind (wpAny_cRoomFor hu1 ?_)
    refine wpAny_bind (PySem.W.ifBound_K KX J hs hf ?_)
    refine wpAny_mono (run_in1 (us := [.ref a, .ref b]) (vs := [.ref a, .ref b]) F hr hb hx I (.cons rfl (.cons rfl .nil)) q) ?_ fun _ _ z => z
    rintro r s' ⟨z, H', I', rz, c, rfl, qq⟩
    cases rz
    exact wpAny_bind (wpAny_truthy_bool (wpAny_pure (hR c s' ⟨.bl (!c), H', I', rfl, qq⟩)))
  have hobj : PySem.W.Looks (model X.prog X.w) s.heap (isInstance (.ref a) (.type "object")) true := J.type.andThen (PySem.W.looks_mroIn KX hm)
  have call2 : ∀ (R : Value → Shared → Prop), (∀ c s', EP X pins σ Q (.bool (!c)) s' → R (.bool (!c)) s') →
      wpAny (model X.prog X.w) X.A (call (.builtin "object.__ne__") [.ref a, .ref b]) R X.xe s := by
    intro R hR
    refine wpAny_call (codeAny_call_builtin PySem.F.cmp_object.ne.plain PySem.F.cmpEntry_ne ?_)
    refine PySem.W.check_slot PySem.F.cmpKind_ne PySem.F.cmpSplit_ne hobj (PySem.F.cmpArgs_ne _ _) ?_
    exact entry _ fun c s' h => hR c s' h
  show wpAny (model X.prog X.w) X.A (richCompare .NotEq (.ref a) (.ref b)) (EP X pins σ Q) X.xe s
  unfold richCompare
  simp only [oneThing_ref]
  refine wpAny_holding (wpAny_bind (wpAny_cRoomFor (Nat.lt_of_succ_lt hu1) ?_))
  rw [cmpInfo_NotEq]
  dsimp only
  refine wpAny_bind (J.type.here (wpAny_bind (J'.type.here ?_)))
  rw [show (Value.ref C != Value.ref C) = false from by simp]
  simp only [Bool.false_eq_true, if_false]
  refine wpAny_bind (wpAny_pure ?_)
  simp only [Bool.false_eq_true, if_false]
  refine wpAny_bind ?_
  simp only [tryCompare]
  refine wpAny_bind ?_
  simp only [callSpecialIfBound?, bindSpecialIfBound?]
  refine wpAny_holding (wpAny_bind (wpAny_bind (wpAny_bind (J.type.here ((PySem.W.looks_findIn KX hn).here ?_)))))
  simp only [PySem.F.cmp_object.ne.bind]
  refine wpAny_bind (wpAny_askSetting (wpAny_ite ?_))
  have fin : ∀ (R : Option Value → Shared → Prop), (∀ c s', EP X pins σ Q (.bool (!c)) s' → R (some (.bool (!c))) s') →
      wpAny (model X.prog X.w) X.A (call (.builtin "object.__ne__") ([.ref a] ++ [.ref b]) >>= fun v => pure (some v)) R X.xe s :=
    fun R hR => wpAny_bind (call2 _ fun c s' h => wpAny_pure (hR c s' h))
  have last : ∀ (R : Option Value → Shared → Prop), (∀ c s', EP X pins σ Q (.bool (!c)) s' → R (some (.bool (!c))) s') →
      wpAny (model X.prog X.w) X.A (do let z ← pure (Value.builtin "object.__ne__", [Value.ref a]); pure (some z)) (fun r s' =>
        wpAny (model X.prog X.w) X.A (match r with
          | some (g, first) => do let z ← call g (first ++ [Value.ref b]); pure (some z)
          | _ => pure none) R X.xe s') X.xe s := fun R hR => wpAny_bind (wpAny_pure (wpAny_pure (fin R hR)))
  split
  · exact last _ fun c s' h => wpAny_pure (wpAny_pure h)
  · exact wpAny_tryCatch (last _ fun c s' h => wpAny_pure (wpAny_pure h))
end
end Sn

/-! ## Rules of our own: C(), C(*xs), cls(*xs), C.m(), o.m(k = v) -/
namespace Sn
open PySem PySem.Spec PyProof.Rows L2
section
variable {X : Cx} {CX : CXT} {k i : Nat} {f C : Addr} {fd : FuncData} {ps : List Str} {sp : Sp} {E : XK} {x m : Str} {e o : Expr} {es : List Expr} {te ta : TE} {t : TA} {p sp_ pos apos : Pos}
/-- C(), __init__ with a star -/
theorem pe_makeR0 (M : Mk X.K C f) (F : FnR X.prog X.w X.K X.mg X.base CX k f sp) (hr : Room (k + 1) X.A) (hg : Gl X x) (hm : X.mg x = some (.ref C)) (hx : Passes CX X E)
    (hdb : (x == ("__debug__" : Str)) = false := by decide) : PE X (.Call (.Name x p) [] [] pos) (StX.tMakeR C sp E tNil) :=
  ⟨fun pins s σ H Q I h => wpAny_Call_Name_kw (ld_glob I hg hm (PySem.W.callWith_K0 I.kIn M.kp (StX.run_makeR (us := []) M F hr hx I .nil h)) hdb)⟩
/-- C(*xs): xs a tuple or a list -/
def tMakeS (K : PySem.W.Frag) (C : Addr) (sp : Sp) (E : XK) (te : TE) : TE := fun σ H Q => te σ H fun y H1 => ∃ a xs, y = V.ref a ∧ (SqT K H1 a xs ∨ SqL K H1 a xs) ∧
  ∀ x dx, H1 x = none → H1 dx = none → dx ≠ x → sp (V.ref x :: xs) (upd (upd H1 dx (.own x)) x (.ins C dx [])) (fun v H2 => v = .non ∧ Q (.ref x) H2) E
theorem pe_makeS (M : Mk X.K C f) (F : FnR X.prog X.w X.K X.mg X.base CX k f sp) (hr : Room (k + 1) X.A) (hg : Gl X x) (hm : X.mg x = some (.ref C)) (hx : Passes CX X E) (he : PE X e te)
    (hdb : (x == ("__debug__" : Str)) = false := by decide) (hst : starEach [.Starred e sp_] X.env = [(true, eval e X.env)] := by rfl) :
    PE X (.Call (.Name x p) [.Starred e sp_] [] pos) (tMakeS X.K C sp E te) := by
  refine ⟨fun pins s σ H Q I h => wpAny_Call_Name_kw (ld_glob I hg hm ?_ hdb)⟩
  refine PySem.W.callWith_S (h₀ := X.base) I.ok.mod.kin M.kp (thn (he.run pins s σ H _ I h) ?_) hst
  rintro v s1 ⟨y, H1, I1, ry, a, xs, rfl, hxs, q⟩
  cases ry
  exact StX.star_any I1 hxs fun us s2 I2 rv => ⟨I2.kIn, StX.run_makeR M F hr hx I2 rv q⟩
/-- cls(*xs), cls a name of the def that holds the class C -/
theorem pe_clsS (M : Mk X.K C f) (F : FnR X.prog X.w X.K X.mg X.base CX k f sp) (hr : Room (k + 1) X.A) (hN : X.N[i]? = some x) (hv : Vis X.env.scope x) (hx : Passes CX X E) (he : PE X e te)
    (hdb : (x == ("__debug__" : Str)) = false := by decide) (hcd : (x == ("__classdict__" : Str)) = false := by decide) (hst : starEach [.Starred e sp_] X.env = [(true, eval e X.env)] := by rfl) :
    PE X (.Call (.Name x p) [.Starred e sp_] [] pos) (fun σ H Q => σ[i]? = some (some (.ref C)) ∧ tMakeS X.K C sp E te σ H Q) := by
  refine ⟨fun pins s σ H Q I h => ?_⟩
  obtain ⟨h1, h2⟩ := h
  refine Call_ (thn ((pe_var (pos := p) hN hv hdb hcd).run pins s σ H (fun v H' => v = .ref C ∧ H' = H) I ⟨_, h1, rfl, rfl⟩) ?_) (by rfl)
  rintro u s1 ⟨y, H1, I1, ry, rfl, rfl⟩
  cases ry
  refine PySem.W.callWith_S (h₀ := X.base) I1.ok.mod.kin M.kp (thn (he.run pins s1 σ _ _ I1 h2) ?_) hst
  rintro v s2 ⟨y, H2, I2, ry, a, xs, rfl, hxs, q⟩
  cases ry
  exact StX.star_any I2 hxs fun us s3 I3 rv => ⟨I3.kIn, StX.run_makeR M F hr hx I3 rv q⟩
/-- C.m(), m a classmethod -/
theorem pe_cmeth0 {mc : Value} {q g : Addr} {pl : Sem Bool} (he : PE X o ta) (r : ClX.CRead X.K C mc) (c : ClX.CMet X.K C mc m q g) (F : FnR X.prog X.w X.K X.mg X.base CX k g sp) (hr : Room k X.A) (hx : Passes CX X E)
    (ht : eval (.Call (.Attribute o m apos) [] [] pos) X.env = (do
      let ov ← eval o X.env
      standAt apos.atName
      let (f, first) ← holding [ov] (getMethod ov m pl)
      callWith pos f first (backTo pos (starEach [] X.env)) (backToKw pos (keywordEach [] X.env))) := by rfl) :
    PE X (.Call (.Attribute o m apos) [] [] pos) (ClX.tCMeth C sp E ta tNil) := by
  refine ⟨fun pins s σ H Q I h => ?_⟩
  refine PySem.W.methodCall_KW (pl := pl) (thn (he.run pins s σ H _ I h) ?_) ht
  rintro u s1 ⟨y, H1, I1, ry, rfl, z⟩
  cases ry
  refine ClX.getmethcm_ok I1 r c fun s2 I2 => ?_
  exact PySem.W.callWith_M0 (first := []) (K := X.K) ⟨ClX.pin_at I2, I2.kIn⟩ c.fi (ClX.run_cm (us := []) F hr hx I2 .nil z)
/-- o.m(k = v), keywords alone -/
def tMethK (C : Addr) (m : Str) (sp : Sp) (gV : List V → List V → List V) (E : XK) (ta : TE) (tk : TA) : TE := fun σ H Q => ta σ H fun x H1 => ∃ a dx fs, x = .ref a ∧ H1 a = some (.ins C dx fs) ∧ fs.lookup m = none ∧
  tk σ H1 fun zs H2 => sp (gV [x] zs) H2 Q E
theorem pe_methK0 {pl : Sem Bool} {kws : List Keyword} {tk : TA} {ks : List Str} {g : List Value → List Value → List Value} {gV : List V → List V → List V} (he : PE X o ta) (c : Cls X.K C) (hm : Meth X.K C m f)
    (F : FnOk X.prog X.w X.K X.mg X.base CX k f fd ps sp) (hr : Room k X.A) (hb : KBinds X.K fd ps ks g gV) (hx : Passes CX X E) (hkw : PK X kws tk)
    (hall : (backToKw pos (keywordEach kws X.env)).all (·.1.isSome) = true := by rfl) (hks : (backToKw pos (keywordEach kws X.env)).filterMap (·.1) = ks := by rfl)
    (hpl : (backToKw pos (keywordEach kws X.env)).any (·.1.isNone) = false := by rfl)
    (ht : eval (.Call (.Attribute o m apos) [] kws pos) X.env = (do
      let ov ← eval o X.env
      standAt apos.atName
      let (f, first) ← holding [ov] (getMethod ov m pl)
      callWith pos f first (backTo pos (starEach [] X.env)) (backToKw pos (keywordEach kws X.env))) := by rfl) :
    PE X (.Call (.Attribute o m apos) [] kws pos) (tMethK C m sp gV E ta tk) := by
  refine ⟨fun pins s σ H Q I h => ?_⟩
  refine PySem.W.methodCall_KW (pl := pl) (thn (he.run pins s σ H _ I h) ?_) ht
  rintro u s1 ⟨y, H1, I1, ry, a, dx, fs, rfl, ea, l, q⟩
  cases ry
  refine getmeth_ok I1 ea c hm l ?_
  refine PySem.W.callWith_KW0 (first := [.ref a]) (h₀ := X.base) I.ok.mod.kin hm.kp hall (thn (hkw.run pos pins s1 σ H1 _ I1 q) ?_) hpl
  rintro ws s2 ⟨zs, H2, I2, rz, q2⟩
  refine ⟨I2.kIn, ?_⟩
  rw [hks]
  exact run_fnk (us := [.ref a]) (vs := [.ref a]) F hr hb hx I2 (.cons rfl .nil) rz q2
/-- e.f, where the knowledge is named (in a comprehension) -/
theorem pe_fldK {K : PySem.W.Frag} {f : Str} (he : PE X e te) (hb : attributeBase e f X.env (eval e X.env) = eval e X.env := by rfl) (hK : X.K = K := by rfl) : PE X (.Attribute e f pos) (tFld K te f) := by
  subst hK
  exact pe_fld he hb
theorem op_in_seqK {K : PySem.W.Frag} (hK : X.K = K := by rfl) : OpR X (compareOp .In) (rIn K false) := by
  subst hK
  exact op_in_seq
theorem op_notIn_seqK {K : PySem.W.Frag} (hK : X.K = K := by rfl) : OpR X (compareOp .NotIn) (rIn K true) := by
  subst hK
  exact op_notIn_seq
theorem op_eqDK {K : PySem.W.Frag} (hu : X.A.units + 64 < cLine) (hK : X.K = K := by rfl) : OpR X (compareOp .Eq) (rEqD K) := by
  subst hK
  exact op_eqD hu
theorem op_neDK {K : PySem.W.Frag} (hu : X.A.units + 64 < cLine) (hK : X.K = K := by rfl) : OpR X (compareOp .NotEq) (rNeD K) := by
  subst hK
  exact op_neD hu
theorem ix_listK {K : PySem.W.Frag} (hK : X.K = K := by rfl) : IxR X (rIxL K) := by
  subst hK
  exact ix_list
theorem ix_tupK {K : PySem.W.Frag} (hK : X.K = K := by rfl) : IxR X (rIxT K) := by
  subst hK
  exact ix_tup
end
end Sn

/-! ## Plain texts as data: shapes, equality; keys of a dict; paths -/
namespace Sn
open PySem PySem.Spec PyProof.Rows L2 TL
def Asc (z : Str) : Prop := ∀ c ∈ tl z, c < 128
theorem asc_app {x y : Str} (a : Asc x) (b : Asc y) : Asc (x ++ y) := fun c h => by
  rw [tl_append] at h
  exact (List.mem_append.mp h).elim (a c) (b c)
theorem asc_cut {z : Str} (a : Asc z) (lo hi : Option Int) : Asc (cutS z lo hi) := fun c h => a c (List.mem_of_mem_drop (List.mem_of_mem_take h))
theorem sgn_asc : ∀ c ∈ tl sgnS, c < 128 := by decide +kernel
theorem isN_sgn {z : Str} (h : isN z = true) : ∀ c ∈ tl z, c ∈ tl sgnS := fun c hc => by
  unfold isN isW at h
  simp only [Bool.and_eq_true, List.all_eq_true, decide_eq_true_eq] at h
  exact h.1.2 c hc
theorem asc_name {z : Str} (h : isN z = true) : Asc z := fun c hc => sgn_asc c (isN_sgn h c hc)
theorem dp_strs {K : PySem.W.Frag} {H : Hp} : ∀ l : List Str, DpAll K H (l.map V.str) (l.map PyData.str)
  | [] => .nil
  | z :: r => .cons (.str z) (dp_strs r)
theorem canLay_strs (l : List Str) : (∀ z ∈ l, Asc z) → PyData.canLayAll0 (l.map PyData.str) = true := by
  induction l with
  | nil => intro _; rfl
  | cons z r ih =>
    intro h
    have hz : PyData.strOk z = true := by
      unfold PyData.strOk
      rw [← Array.all_toList, List.all_eq_true]
      intro c hc
      have := h z (List.mem_cons.mpr (.inl rfl)) c hc
      exact decide_eq_true (by omega)
    simp only [List.map_cons, PyData.canLayAll0, PyData.canLay0, hz, ih fun y hy => h y (List.mem_cons.mpr (.inr hy))]
    rfl
theorem depth_strs (l : List Str) : PyData.depthAll (l.map PyData.str) = 0 := by
  induction l with
  | nil => rfl
  | cons z r ih => simp [PyData.depthAll, PyData.depth, ih]
theorem shaped_strs (l : List Str) (h : ∀ z ∈ l, Asc z) : SeqAt.shaped (.list (l.map PyData.str)) = true := by
  simp [SeqAt.shaped, PyData.canLay0, PyData.depth, canLay_strs l h, depth_strs l]
theorem shaped_tstrs (l : List Str) (h : ∀ z ∈ l, Asc z) : SeqAt.shaped (.tuple (l.map PyData.str)) = true := by
  simp [SeqAt.shaped, PyData.canLay0, PyData.depth, canLay_strs l h, depth_strs l]
theorem eqvAll_strs : ∀ l r : List Str, PyData.eqvAll (l.map PyData.str) (r.map PyData.str) = decide (l = r)
  | [], [] => rfl
  | [], _ :: _ => by simp [PyData.eqvAll]
  | _ :: _, [] => by simp [PyData.eqvAll]
  | a :: l, b :: r => by
    show (PyData.eqv (.str a) (.str b) && PyData.eqvAll (l.map PyData.str) (r.map PyData.str)) = _
    rw [eqvAll_strs l r]
    show ((a == b) && decide (l = r)) = _
    by_cases h : a = b
    · subst h; simp
    · simp [h]
theorem eqv_lists (l r : List Str) : PyData.eqv (.list (l.map PyData.str)) (.list (r.map PyData.str)) = decide (l = r) := by
  show PyData.eqvAll _ _ = _
  exact eqvAll_strs l r
theorem eqv_tups (l r : List Str) : PyData.eqv (.tuple (l.map PyData.str)) (.tuple (r.map PyData.str)) = decide (l = r) := by
  show PyData.eqvAll _ _ = _
  exact eqvAll_strs l r
/-- a path, as the sets want it -/
structure Pth (z : Str) : Prop where
  p : isP z = true
  a : Asc z
  l : z.length ≤ 1000
theorem dot_no : 46 ∉ tl sgnS := by decide +kernel
theorem pth_of {a b : Str} (ha : isN a = true) (hb : isN b = true) : Pth (a ++ "." ++ b) := by
  have na : 46 ∉ tl a := fun h => dot_no (isN_sgn ha _ h)
  have nb : 46 ∉ tl b := fun h => dot_no (isN_sgn hb _ h)
  have e : tl (a ++ "." ++ b) = tl a ++ 46 :: tl b := by
    rw [tl_append, tl_append, show tl ("." : Str) = [46] by decide +kernel, List.append_assoc]; rfl
  have sp := split_one e na
  have sp2 : spl [46] 0 [] (tl b) = [tl b] := spl_last1 (s := 46) (S := []) (p := tl b) (acc := []) nb
  have es : Txt.split (a ++ "." ++ b) dotS = [a, b] := by
    apply map_tl_inj
    rw [sp, sp2]; rfl
  have ha8 := isN_len ha
  have hb8 := isN_len hb
  refine ⟨?_, asc_app (asc_app (asc_name ha) (by unfold Asc; decide +kernel)) (asc_name hb), ?_⟩
  · unfold isP
    have es2 : Txt.split (a ++ "." ++ b) "." = [a, b] := es
    rw [es2]
    simp [ha, hb]
  · rw [len_tl, e, List.length_append, List.length_cons, ← len_tl, ← len_tl]
    omega
/-- texts as keys, all with True -/
def trues (ks : List Str) : List (Key × V) := ks.map fun z => (Sum.inr z, V.bl true)
theorem put_true (ks : List Str) (z : Str) : putK (trues ks) (Sum.inr z) (.bl true) = trues (if z ∈ ks then ks else ks ++ [z]) := by
  unfold putK
  have h : ((trues ks).any fun kv => decide (kv.1 = Sum.inr z)) = decide (z ∈ ks) := by
    unfold trues
    rw [List.any_map, Bool.eq_iff_iff, List.any_eq_true, decide_eq_true_eq]
    constructor
    · rintro ⟨x, hx, e⟩
      have e2 : (Sum.inr x : Key) = Sum.inr z := by simpa using e
      injection e2 with e2
      exact e2 ▸ hx
    · intro hz
      exact ⟨z, hz, by simp⟩
  rw [h]
  by_cases hz : z ∈ ks
  · rw [if_pos (decide_eq_true hz), if_pos hz]
    unfold trues
    rw [List.map_map]
    refine List.map_congr_left fun x _ => ?_
    show (if (Sum.inr x : Key) = Sum.inr z then ((Sum.inr x : Key), V.bl true) else (Sum.inr x, V.bl true)) = _
    split <;> rfl
  · rw [if_neg (by simpa using hz), if_neg hz]
    unfold trues
    rw [List.map_append]; rfl
theorem map_str_inj {l r : List Str} (h : l.map V.str = r.map V.str) : l = r := by
  induction l generalizing r with
  | nil => cases r with
    | nil => rfl
    | cons _ _ => cases h
  | cons a l ih => cases r with
    | nil => cases h
    | cons b r =>
      injection h with h1 h2
      injection h1 with h1
      rw [h1, ih h2]
theorem get_strs {l : List Str} {i : Nat} {x : V} (h : (l.map V.str)[i]? = some x) : ∃ z, l[i]? = some z ∧ x = V.str z := by
  rw [List.getElem?_map] at h
  cases e : l[i]? with
  | none => rw [e] at h; cases h
  | some y => rw [e] at h; exact ⟨y, rfl, (Option.some.inj h).symm⟩
end Sn

/-! ## Names that were not drawn yet, in plain Lean -/
namespace Sn
open PySem PySem.Spec PyProof.Rows L2 TL
/-- who has no repetition and lies within another row is not longer -/
theorem nodup_len {α : Type} [DecidableEq α] : ∀ (l r : List α), l.Nodup → (∀ x ∈ l, x ∈ r) → l.length ≤ r.length
  | [], _, _, _ => Nat.zero_le _
  | a :: l, r, n, h => by
    have n2 := List.nodup_cons.mp n
    have ha : a ∈ r := h a (List.mem_cons.mpr (.inl rfl))
    have ih := nodup_len l (r.erase a) n2.2 fun x hx => by
      have ne : x ≠ a := fun e => n2.1 (e ▸ hx)
      exact (List.mem_erase_of_ne ne).mpr (h x (List.mem_cons.mpr (.inr hx)))
    have e := List.length_erase_of_mem ha
    have pos : 0 < r.length := List.length_pos_of_mem ha
    rw [List.length_cons]
    omega
def numS (j : Nat) : Str := toString ((10 : Int) + (j : Int))
theorem num_two : ∀ j ∈ List.range 30, (tl (numS j)).length = 2 ∧ (∀ c ∈ tl (numS j), c ∈ tl sgnS) ∧ (∀ r ∈ resv, ∀ c ∈ tl (numS j), c ∉ tl r) := by decide +kernel
theorem num_nd : ((List.range 30).map fun j => tl (numS j)).Nodup := by decide +kernel
theorem cut6 (z : Str) : tl (cutS z none (some 6)) = (tl z).take 6 := by
  unfold cutS
  rw [show HT.sIx z.length z.length (some 6) = min 6 z.length from HT.sIx_nat _ _ 6, HT.sIx_none]
  show ((tl z).drop 0).take (min 6 z.length - 0) = _
  rw [List.drop_zero, Nat.sub_zero, len_tl, List.take_eq_take_iff]
  omega
/-- what may be put in the place of a drawn name -/
def cand (z : Str) (j : Nat) : Str := cutS z none (some 6) ++ numS j
def cands (z : Str) : List Str := z :: (List.range 30).map (cand z)
theorem isN_head {z : Str} (h : isN z = true) : ∃ c r, tl z = c :: r ∧ c ∈ tl letS ∧ ∀ x ∈ r, x ∈ tl sgnS := by
  have hs := isN_sgn h
  unfold isN at h
  simp only [Bool.and_eq_true] at h
  have hf := h.2.1
  unfold fstL at hf
  match e : tl z with
  | [] => rw [e] at hf; cases hf
  | c :: r =>
    rw [e] at hf
    exact ⟨c, r, rfl, by simpa using hf, fun x hx => hs x (by rw [e]; exact List.mem_cons.mpr (.inr hx))⟩
theorem cand_ok {z : Str} (h : isN z = true) {j : Nat} (hj : j < 30) : isN (cand z j) = true := by
  obtain ⟨c, r, e, hc, hr⟩ := isN_head h
  obtain ⟨h2, hs, hn⟩ := num_two j (List.mem_range.mpr hj)
  have e2 : tl (cand z j) = c :: (r.take 5 ++ tl (numS j)) := by
    unfold cand
    rw [tl_append, cut6, e]; rfl
  refine isN_of e2 hc (fun x hx => ?_) (by rw [List.length_append, List.length_take, h2]; omega) fun hm => ?_
  · rcases List.mem_append.mp hx with q | q
    · exact hr x (List.mem_of_mem_take q)
    · exact hs x q
  · match e3 : tl (numS j) with
    | [] => rw [e3] at h2; cases h2
    | d :: r3 =>
      exact hn _ hm d (by rw [e3]; simp) (by rw [e2, e3]; simp)
theorem cands_ok {z : Str} (h : isN z = true) : ∀ y ∈ cands z, isN y = true := by
  intro y hy
  rcases List.mem_cons.mp hy with rfl | hy
  · exact h
  · obtain ⟨j, hj, rfl⟩ := List.mem_map.mp hy
    exact cand_ok h (List.mem_range.mp hj)
theorem cand_nd (z : Str) : ((List.range 30).map (cand z)).Nodup := by
  have h : ((List.range 30).map fun j => tl (cand z j)).Nodup := by
    have e : ((List.range 30).map fun j => tl (cand z j)) = ((List.range 30).map fun j => tl (numS j)).map fun l => (tl z).take 6 ++ l := by
      rw [List.map_map]
      refine List.map_congr_left fun j _ => ?_
      show tl (cand z j) = (tl z).take 6 ++ tl (numS j)
      unfold cand
      rw [tl_append, cut6]
    rw [e]
    exact List.Pairwise.map _ (fun a b ne q => ne (List.append_cancel_left q)) num_nd
  have e2 : ((List.range 30).map fun j => tl (cand z j)) = ((List.range 30).map (cand z)).map tl := by rw [List.map_map]; rfl
  rw [e2] at h
  exact List.Pairwise.of_map tl (fun a b ne q => ne (q ▸ rfl)) h
/-- one of them is new -/
theorem cand_new {z : Str} {l : List Str} (hl : l.length < 30) : (cands z).filter (fun y => !decide (y ∈ l)) ≠ [] := by
  intro e
  have h : ∀ y ∈ (List.range 30).map (cand z), y ∈ l := by
    intro y hy
    have h2 := List.filter_eq_nil_iff.mp e y (List.mem_cons.mpr (.inr hy))
    simpa using h2
  have q := nodup_len _ l (cand_nd z) h
  rw [List.length_map, List.length_range] at q
  omega
end Sn

/-! ## Own errors whose __init__ says super().__init__(text) and keeps its arguments -/
namespace Sn
open PySem PySem.Spec PyProof.Rows L2
/-- super().__init__(m) -/
abbrev supSt (m : Str) (j : Nat) (p0 p1 p2 p3 p4 p5 : Pos) : Stmt := .Expr (.Call (.Attribute (.Call (.Name "super" p0) [] [] p1) "__init__" p2) [.Constant (.str m) j p3] [] p4) p5
/-- how its call is evaluated: the places tell nothing else -/
def SupEv (m : Str) (j : Nat) (p0 p1 p2 p3 p4 : Pos) : Prop := ∀ env : Env, eval (.Call (.Attribute (.Call (.Name "super" p0) [] [] p1) "__init__" p2) [.Constant (.str m) j p3] [] p4) env = (do
  let ov ← attributeBase (.Call (.Name "super" p0) [] [] p1) "__init__" env (eval (.Call (.Name "super" p0) [] [] p1) env)
  standAt p2.atName
  let (f, first) ← holding [ov] (getMethod ov "__init__" (do return (← importBound (.Call (.Name "super" p0) [] [] p1) env).getD true))
  callWith p4 f first (backTo p4 (starEach [.Constant (.str m) j p3] env)) [])
/-- self.f = g -/
abbrev keepSt (f g : Str) (q1 q2 q3 q4 : Pos) : Stmt := .Assign [.Attribute (.Name "self" q1) f q2] (.Name g q3) q4
/-- what the written part says of the __init__ at fI of the class at C -/
structure SupFn (P : Program) (K : PySem.W.Frag) (C fI : Addr) (st : Stmt) (qual : Str) : Prop where
  fn : ∃ (oc kV doc pm ct ccl cl : Value) (od an cdd cld : Option Addr) (cda cc : Addr) (osl ccs csl : Array (Option Value)) (vs : Array Value) (file : Str) (tf : Tok),
    K.lookup fI = some ⟨oc, od, .func (PySem.W.ksFn "__init__" qual (defArgs st) (defBody st) (defScope st) .none kV doc pm an (.ref cda) ct cc), osl⟩ ∧ PySem.W.codeIn K (.ref cda) qual = true ∧
    K.lookup cda = some ⟨ccl, cdd, .fields vs, ccs⟩ ∧ vs[2]? = some (.str file tf) ∧ ((P.main.file : Str) == file) = true ∧ K.lookup cc = some ⟨cl, cld, .cell (some (.ref C)), csl⟩
  top : (P.main.scope.names.lookup ("super" : Str)).isSome = false
  sup : PySem.W.ks_superIn K C C "__init__" = some (some (.builtin "ValueError.__init__"))
  self : PySem.W.mroIn K C (.ref C) = some true
  opq : PySem.W.nsIn K cStatics "thirdparty.any" = some none
  ve : PySem.W.subIn K (.ref C) (.type "ValueError") = some true
/-- what the text of such an __init__ says -/
structure SupTxt (st : Stmt) : Prop where
  ks : (defScope st).names.lookup ("super" : Str) = some .globalImplicit
  kc : (defScope st).names.lookup ("__class__" : Str) = some .free
  kf : (defScope st).names.lookup ("self" : Str) = some .local
  nc : ∀ x ∈ (defScope st).names, x.2 ≠ .cell
  hp : ∃ ar : Arg, ((defArgs st).posonlyargs ++ (defArgs st).args).head? = some ar ∧ ar.arg = "self"
  co : (defScope st).isCoroutine = false
  gen : (defScope st).isGenerator = false
  kind : (defScope st).kind = .function
section
variable {prog : Program} {w : World} {A : Around} {E : Value → Shared → Prop} {R : Result → Shared → Prop} {s : Shared} {K : PySem.W.Frag} {mg mb : Str → Option Value} {C fI : Addr} {st : Stmt} {qual : Str}
open PySem.W PySem.Calls PySem.HandSPX
theorem cls_of (O : OexC K C) : ∃ cd : ClassData, clsIn K C = some cd ∧ refsVE cd.mro = true ∧ cd.hasDict = true := by
  obtain ⟨nm, q, N, bs, bm, sn, sub, ab, col, dd, k0, k1, k2, k3, k5, hC, hbm⟩ := O.cls
  exact ⟨{ name := nm, bases := bs, mro := .ref C :: bm, ns := N, qualname := q, hasDict := true, slotNames := sn, subclasses := sub, abstract := ab, collection := col, hasDel := false }, by unfold clsIn; rw [hC] <;> rfl, hbm, rfl⟩
/-- super().__init__(m): the args are laid anew, nothing else is told -/
theorem sup_step {body : List Stmt} {m : Str} {j : Nat} {p0 p1 p2 p3 p4 p5 : Pos} {ml : Str → Option Value} {L x t0 cda cc : Addr} {oc kV doc pm ct ccl cl : Value} {od an cdd cld : Option Addr} {osl ccs csl : Array (Option Value)} {vs : Array Value} {file : Str} {tf : Tok} {Q : Flow → Shared → Prop}
    (hev : SupEv m j p0 p1 p2 p3 p4) (O : OexC K C) (S : SupFn prog K C fI st qual) (T : SupTxt st)
    (hf : K.lookup fI = some ⟨oc, od, .func (ksFn "__init__" qual (defArgs st) (defBody st) (defScope st) .none kV doc pm an (.ref cda) ct cc), osl⟩)
    (hcode : K.lookup cda = some ⟨ccl, cdd, .fields vs, ccs⟩) (hvs : vs[2]? = some (.str file tf)) (hfile : ((prog.main.file : Str) == file) = true) (hcell : K.lookup cc = some ⟨cl, cld, .cell (some (.ref C)), csl⟩)
    (X : K.In s.heap) (G : s.heap.Ns mainGlobals mg) (hmg : mg "super" = none) (Bn : s.heap.Ns builtinsNs mb) (hb : mb "super" = some (.type "super"))
    (hn : s.heap.Ns L ml) (hv : ml "self" = some (.ref x)) (hx : s.heap.get? x = some (excO C t0)) (hnx : K.lookup x = none)
    (h : ∀ h' tk t1, (∀ b o, b ≠ x → s.heap.get? b = some o → h'.get? b = some o) → h'.get? x = some (excO C t1) → Q .next { s with heap := h', toks := tk }) :
    PySem.wpAt (model prog w) A (.func body (ksEnv qual (defScope st) L fI (.ref cda) cc)) (exec (supSt m j p0 p1 p2 p3 p4 p5) (ksEnv qual (defScope st) L fI (.ref cda) cc)) Q E s := by
  obtain ⟨cd, hcd, hmro, hdct⟩ := cls_of O
  obtain ⟨ar, har, hself⟩ := T.hp
  obtain ⟨nm, q, N, bs, bm, sn, sub, ab, col, dd, k0, k1, k2, k3, k5, hC, hbm⟩ := O.cls
  obtain ⟨oD, hD1, hD2⟩ : ∃ oD, s.heap.get? C = some oD ∧ oD.data = .cls cd := by
    unfold clsIn at hcd
    split at hcd
    · rename_i c d cd' sl ho
      cases hcd
      exact ⟨_, X _ _ ho, rfl⟩
    · cases hcd
  have I : InstAt s.heap x (excO C t0) C none := ⟨hx, rfl, rfl, trivial⟩
  obtain ⟨hh, g, d, t, os⟩ := s
  refine ks_wpAt_Expr_any (ks_wpAt_MethodCall (he := hev _) ?_) (hi := by simp [interactive, T.kind])
  refine ks_wpAt_super_base (env := ksEnv qual (defScope st) L fI (.ref cda) cc) T.ks T.kc (by decide) rfl (X _ _ hf) rfl har rfl (X _ _ hcode) rfl hvs hfile S.top ?_
  refine ks_loadName_global T.kind T.ks (loadGlobal_builtin (env := ksEnv qual (defScope st) L fI (.ref cda) cc) G hmg Bn hb ⟨rfl, ?_⟩)
  refine wpAny_loadName_free T.kind T.kc rfl ⟨_, X _ _ hcell, rfl⟩ ?_
  rw [hself]
  refine wpAny_loadName_local T.kind T.kf hn hv ?_
  refine ks_wpAny_isType_cls hD1 hD2 ⟨rfl, ?_⟩
  refine ks_wpAny_call_super hD1 hD2 hx rfl (fun c e => by cases e) (looks_mroIn X S.self) (fun h1 e1 k1 => ?_)
  have X1 : K.In h1 := X.keeps k1
  have hm := S.sup
  unfold ks_superIn at hm
  rw [hcd] at hm
  have I1 : InstAt h1 x (excO C t0) C none := ⟨k1 _ _ hx, rfl, rfl, trivial⟩
  have hI : Looks (model prog w) h1 (isInstance (.ref x) (.type "ValueError")) true := I1.type.andThen (looks_subIn X1 S.ve)
  refine kxs_getMethod kxs_ValueError e1 (looks_opaque X1 S.opq) (l₀ := cd.mro) (fun A Q E s k q => wpAny_bind ((looks_clsIn X1 hcd) A _ E s k (wpAny_pure q))) rfl X1 hm hI (ks_ne X1 I1 hcd) (by decide) ?_
  have hz1 : (h1.push (kxs_mw "ValueError.__init__" x)).get? h1.objs.size = some (kxs_mw "ValueError.__init__" x) := Heap.get?_push_size _ rfl
  have hx1 : (h1.push (kxs_mw "ValueError.__init__" x)).get? x = some (excO C t0) := Heap.get?_push_of_some _ (k1 _ _ hx)
  have hC1 := Heap.get?_push_of_some (kxs_mw "ValueError.__init__" x) (X1 _ _ hC)
  have kk : ∀ b o, hh.get? b = some o → (h1.push (kxs_mw "ValueError.__init__" x)).get? b = some o := fun b o e => Heap.get?_push_of_some _ (k1 b o e)
  generalize h1.push (kxs_mw "ValueError.__init__" x) = h2 at hz1 hx1 hC1 kk
  refine kxs_callWith (i := "ValueError.__init__") (x := x) rfl ?_
  refine evalArgs_plain (spliced_cons (Calls.Constant_str (k := j) (pos := p3) (spliced_nil ⟨hz1, ?_⟩)))
  refine wpAny_call (codeAny_of_tree ?_)
  show wpAny _ A.in1 (callAny (.ref h1.objs.size) ⟨[Value.str m _], []⟩) _ _ _
  simp only [callAny]
  refine wpAny_bind (wpAny_load hz1 ?_)
  simp only [kxs_mw, show (Value.type "method-wrapper" == Value.type "method" || Value.type "method-wrapper" == Value.type "builtin_function_or_method" || Value.type "method-wrapper" == Value.type "method-wrapper") = true by decide, if_true]
  refine KFB.if_so (by decide) ?_
  refine wpAny_bind (check_bound_init F.excBase_ValueError.toExcCallFacts hC1 hx1 rfl ?_)
  refine wpAny_bind (wpAny_pure (wpAny_pure ?_))
  refine ⟨plainId_quiet F.excBase_ValueError.init.plain _, codeAny_builtin F.excBase_ValueError.initEntry ?_⟩
  refine exc_init_tree (cls := .ref C) (t0 := t0) (dv := none) (c2 := .none) (c3 := .none) (b4 := .bool false) hx1 (by rw [sizeLine_eq]; show 1 ≤ 16777216; decide) fun h3 k3 e3 t3 => ?_
  exact h h3 _ _ (fun b o hb e => k3 b o hb (kk b o e)) e3
theorem ldK {M : Model} {s : Shared} {name : Str} {scope : Scope} {L a cc : Addr} {cd : Value} {m : Str → Option Value} {x : Str} {pos : Pos} {v : Value} {Q : Value → Shared → Prop} {A : Around} {E : Value → Shared → Prop} (hn : s.heap.Ns L m) (hv : m x = some v) (h : Q v s)
    (hk : scope.kind = .function) (hl : scope.names.lookup x = some .local) (hd : (x == ("__debug__" : Str)) = false) : wpAny M A (eval (.Name x pos) (ksEnv name scope L a cd cc)) Q E s := wpAny_Name (wpAny_loadName_local hk hl hn hv h) hd
theorem kept_but {h h' : Heap} {x : Addr} (X : K.In h) (hx : K.lookup x = none) (k : ∀ b o, b ≠ x → h.get? b = some o → h'.get? b = some o) : K.In h' := fun a o e =>
  k a o (fun z => by rw [z, hx] at e; cases e) (X a o e)
/-- what such an __init__ leaves of a fresh error at x: its dict at dx -/
structure ErrEnd (h h' : Heap) (x C dx t1 : Addr) (ms : Str → Option Value) : Prop where
  keep : ∀ b o, b ≠ x → h.get? b = some o → h'.get? b = some o
  obj : h'.get? x = some { cls := .ref C, dict := some dx, data := .fields #[.ref t1, .none, .none, .none, .bool false, .none] }
  dbig : h.objs.size ≤ dx
  dne : dx ≠ x
  ns : h'.Ns1 dx ms
/-- the text: super().__init__(m), self.f = f -/
structure Txt1 (st : Stmt) (f : Str) : Prop where
  T : SupTxt st
  kf : (defScope st).names.lookup f = some .local
  df : (f == ("__debug__" : Str)) = false
  nf : f ≠ "self"
  bd : ∃ (m : Str) (j : Nat) (p0 p1 p2 p3 p4 p5 q1 q2 q3 q4 : Pos), defBody st = [supSt m j p0 p1 p2 p3 p4 p5, keepSt f f q1 q2 q3 q4] ∧ SupEv m j p0 p1 p2 p3 p4
theorem err_init1 {f : Str} (O : OexC K C) (S : SupFn prog K C fI st qual) (T : Txt1 st f) (hno : findIn K (.ref C) f = some none) {x t0 : Addr} {v : Value} {args : Args}
    (hb : ∀ (kV doc pm : Value) (an : Option Addr) (cdv ct : Value) (cc : Addr), BindsTo s (ksFn "__init__" qual (defArgs st) (defBody st) (defScope st) .none kV doc pm an cdv ct cc) args [("self", .ref x), (f, v)])
    (X : K.In s.heap) (G : s.heap.Ns mainGlobals mg) (hmg : mg "super" = none) (Bn : s.heap.Ns builtinsNs mb) (hbb : mb "super" = some (.type "super"))
    (hlim : s.heap.NoLimit) (hx : s.heap.get? x = some (excO C t0)) (hnx : K.lookup x = none) (hroom : A.depth < recursionLimit)
    (hq : ∀ h' tk dx t1, ErrEnd s.heap h' x C dx t1 (fun y => if y = f then some v else none) → R (.ok (.ret .none)) { s with heap := h', toks := tk }) :
    codeAny (model prog w) A (.call (.ref fI) args) R s := by
  obtain ⟨oc, kV, doc, pm, ct, ccl, cl, od, an, cdd, cld, cda, cc, osl, ccs, csl, vs, file, tf, hf, hcd, hcode, hvs, hfile, hcell⟩ := S.fn
  obtain ⟨m, j, p0, p1, p2, p3, p4, p5, q1, q2, q3, q4, ebody, hev⟩ := T.bd
  obtain ⟨cd, hcls, hmro, hdct⟩ := cls_of O
  refine ks_codeAny_call_defAt (fd := ksFn "__init__" qual (defArgs st) (defBody st) (defScope st) .none kV doc pm an (.ref cda) ct cc) (body := defBody st) (binds := [("self", .ref x), (f, v)]) hroom (X _ _ hf) rfl hlim (codeRec_of X hcd) rfl (hb kV doc pm an (.ref cda) ct cc)
    T.T.nc ?_ (fun h1 hn k1 => ?_) T.T.co T.T.gen T.T.kind
  · intro y hy
    rcases List.mem_cons.mp hy with rfl | hy
    · exact T.T.kf
    · rw [List.mem_singleton.mp hy]; exact T.kf
  show PySem.wpAt _ (A.deeper (ksEnv qual (defScope st) s.heap.objs.size fI (.ref cda) cc)) (.func (defBody st) (ksEnv qual (defScope st) s.heap.objs.size fI (.ref cda) cc)) (execs (defBody st) (ksEnv qual (defScope st) s.heap.objs.size fI (.ref cda) cc)) _ _ _
  generalize hA : A.deeper (ksEnv qual (defScope st) s.heap.objs.size fI (.ref cda) cc) = A1
  generalize hcode2 : Code.func (defBody st) (ksEnv qual (defScope st) s.heap.objs.size fI (.ref cda) cc) = code
  rw [ebody]
  have l1 : (([("self", .ref x), (f, v)] : List (Str × Value)).reverse.lookup ("self" : Str)) = some (Value.ref x) := by
    show List.lookup _ [(f, v), ("self", .ref x)] = _
    have e : (("self" : Str) == f) = false := by simpa using fun e => T.nf e.symm
    simp [List.lookup, e]
  have l2 : (([("self", .ref x), (f, v)] : List (Str × Value)).reverse.lookup f) = some v := by
    show List.lookup _ [(f, v), ("self", .ref x)] = _
    simp [List.lookup]
  refine ks_wpAt_execs_cons ?_
  rw [← hcode2]
  have X1 : K.In h1 := X.keeps k1
  refine sup_step (s := { s with heap := h1, toks := s.toks + 2 }) hev O S T.T hf hcode hvs hfile hcell X1 (G.keeps k1) hmg (Bn.keeps k1) hbb hn l1 (k1 _ _ hx) hnx fun h2 tk2 t1 k2 hx2 => ?_
  have X2 : K.In h2 := kept_but X1 hnx k2
  have hxL : s.heap.objs.size ≠ x := Nat.ne_of_gt (Heap.lt_size hx)
  have hn2 : h2.Ns s.heap.objs.size (fun y => ([("self", .ref x), (f, v)] : List (Str × Value)).reverse.lookup y) := by
    obtain ⟨o, es, ep, ho, r⟩ := hn
    exact ⟨o, es, ep, k2 _ _ hxL ho, r⟩
  refine wpAt_of_wpAny (wpAny_execs_cons (plainObj_wpAny_Assign_Attribute ?_))
  refine ldK hn2 l2 (ldK hn2 l1 ?_ T.T.kind T.T.kf (by decide)) T.T.kind T.kf T.df
  refine set_plain X2 (ox := excO C t1) (od := none) ⟨hx2, rfl, rfl, trivial⟩ O.sa ?_
  refine exc_osa X2 hx2 hcls hmro hdct hno (fun h3 tk3 dx k3 dn dne hx3 hn3 => ?_)
  refine wpAny_execs_nil (hq h3 tk3 dx t1 ⟨fun b o hb e => k3 b o hb (k2 b o hb (k1 b o e)), hx3, ?_, dne, hn3⟩)
  have z : s.heap.objs.size < h2.objs.size := hn2.lt
  exact Nat.le_of_lt (Nat.lt_of_lt_of_le z dn)
/-- the text: super().__init__(m), self.f = f, self.g = g -/
structure Txt2 (st : Stmt) (f g : Str) : Prop where
  T : SupTxt st
  kf : (defScope st).names.lookup f = some .local
  kg : (defScope st).names.lookup g = some .local
  df : (f == ("__debug__" : Str)) = false
  dg : (g == ("__debug__" : Str)) = false
  nf : f ≠ "self"
  ng : g ≠ "self"
  fg : f ≠ g
  bd : ∃ (m : Str) (j : Nat) (p0 p1 p2 p3 p4 p5 q1 q2 q3 q4 r1 r2 r3 r4 : Pos), defBody st = [supSt m j p0 p1 p2 p3 p4 p5, keepSt f f q1 q2 q3 q4, keepSt g g r1 r2 r3 r4] ∧ SupEv m j p0 p1 p2 p3 p4
theorem err_init2 {f g : Str} (O : OexC K C) (S : SupFn prog K C fI st qual) (T : Txt2 st f g) (hno : findIn K (.ref C) f = some none) (hno2 : findIn K (.ref C) g = some none) {x t0 : Addr} {v u : Value} {args : Args}
    (hb : ∀ (kV doc pm : Value) (an : Option Addr) (cdv ct : Value) (cc : Addr), BindsTo s (ksFn "__init__" qual (defArgs st) (defBody st) (defScope st) .none kV doc pm an cdv ct cc) args [("self", .ref x), (f, v), (g, u)])
    (X : K.In s.heap) (G : s.heap.Ns mainGlobals mg) (hmg : mg "super" = none) (Bn : s.heap.Ns builtinsNs mb) (hbb : mb "super" = some (.type "super"))
    (hlim : s.heap.NoLimit) (hx : s.heap.get? x = some (excO C t0)) (hnx : K.lookup x = none) (hroom : A.depth < recursionLimit)
    (hq : ∀ h' tk dx t1, ErrEnd s.heap h' x C dx t1 (fun y => if y = g then some u else if y = f then some v else none) → R (.ok (.ret .none)) { s with heap := h', toks := tk }) :
    codeAny (model prog w) A (.call (.ref fI) args) R s := by
  obtain ⟨oc, kV, doc, pm, ct, ccl, cl, od, an, cdd, cld, cda, cc, osl, ccs, csl, vs, file, tf, hf, hcd, hcode, hvs, hfile, hcell⟩ := S.fn
  obtain ⟨m, j, p0, p1, p2, p3, p4, p5, q1, q2, q3, q4, r1, r2, r3, r4, ebody, hev⟩ := T.bd
  obtain ⟨cd, hcls, hmro, hdct⟩ := cls_of O
  refine ks_codeAny_call_defAt (fd := ksFn "__init__" qual (defArgs st) (defBody st) (defScope st) .none kV doc pm an (.ref cda) ct cc) (body := defBody st) (binds := [("self", .ref x), (f, v), (g, u)]) hroom (X _ _ hf) rfl hlim (codeRec_of X hcd) rfl (hb kV doc pm an (.ref cda) ct cc)
    T.T.nc ?_ (fun h1 hn k1 => ?_) T.T.co T.T.gen T.T.kind
  · intro y hy
    rcases List.mem_cons.mp hy with rfl | hy
    · exact T.T.kf
    rcases List.mem_cons.mp hy with rfl | hy
    · exact T.kf
    · rw [List.mem_singleton.mp hy]; exact T.kg
  show PySem.wpAt _ (A.deeper (ksEnv qual (defScope st) s.heap.objs.size fI (.ref cda) cc)) (.func (defBody st) (ksEnv qual (defScope st) s.heap.objs.size fI (.ref cda) cc)) (execs (defBody st) (ksEnv qual (defScope st) s.heap.objs.size fI (.ref cda) cc)) _ _ _
  generalize hA : A.deeper (ksEnv qual (defScope st) s.heap.objs.size fI (.ref cda) cc) = A1
  generalize hcode2 : Code.func (defBody st) (ksEnv qual (defScope st) s.heap.objs.size fI (.ref cda) cc) = code
  rw [ebody]
  have l1 : (([("self", .ref x), (f, v), (g, u)] : List (Str × Value)).reverse.lookup ("self" : Str)) = some (Value.ref x) := by
    show List.lookup _ [(g, u), (f, v), ("self", .ref x)] = _
    have e : (("self" : Str) == f) = false := by simpa using fun e => T.nf e.symm
    have e' : (("self" : Str) == g) = false := by simpa using fun e => T.ng e.symm
    simp [List.lookup, e, e']
  have l2 : (([("self", .ref x), (f, v), (g, u)] : List (Str × Value)).reverse.lookup f) = some v := by
    show List.lookup _ [(g, u), (f, v), ("self", .ref x)] = _
    have e : (f == g) = false := by simpa using T.fg
    simp [List.lookup, e]
  have l3 : (([("self", .ref x), (f, v), (g, u)] : List (Str × Value)).reverse.lookup g) = some u := by
    show List.lookup _ [(g, u), (f, v), ("self", .ref x)] = _
    simp [List.lookup]
  refine ks_wpAt_execs_cons ?_
  rw [← hcode2]
  have X1 : K.In h1 := X.keeps k1
  refine sup_step (s := { s with heap := h1, toks := s.toks + 3 }) hev O S T.T hf hcode hvs hfile hcell X1 (G.keeps k1) hmg (Bn.keeps k1) hbb hn l1 (k1 _ _ hx) hnx fun h2 tk2 t1 k2 hx2 => ?_
  have X2 : K.In h2 := kept_but X1 hnx k2
  have hxL : s.heap.objs.size ≠ x := Nat.ne_of_gt (Heap.lt_size hx)
  have keepNs : ∀ {h h' : Heap}, h.Ns s.heap.objs.size (fun y => ([("self", .ref x), (f, v), (g, u)] : List (Str × Value)).reverse.lookup y) → (∀ b o, b ≠ x → h.get? b = some o → h'.get? b = some o) →
      h'.Ns s.heap.objs.size (fun y => ([("self", .ref x), (f, v), (g, u)] : List (Str × Value)).reverse.lookup y) := fun {h h'} hn k => by
    obtain ⟨o, es, ep, ho, r⟩ := hn
    exact ⟨o, es, ep, k _ _ hxL ho, r⟩
  have hn2 := keepNs hn k2
  refine wpAt_of_wpAny (wpAny_execs_cons (plainObj_wpAny_Assign_Attribute ?_))
  refine ldK hn2 l2 (ldK hn2 l1 ?_ T.T.kind T.T.kf (by decide)) T.T.kind T.kf T.df
  refine set_plain X2 (ox := excO C t1) (od := none) ⟨hx2, rfl, rfl, trivial⟩ O.sa ?_
  refine exc_osa X2 hx2 hcls hmro hdct hno (fun h3 tk3 dx k3 dn dne hx3 hn3 => ?_)
  have X3 : K.In h3 := kept_but X2 hnx k3
  have hn3' := keepNs hn2 k3
  refine wpAny_execs_cons (plainObj_wpAny_Assign_Attribute ?_)
  refine ldK hn3' l3 (ldK hn3' l1 ?_ T.T.kind T.T.kf (by decide)) T.T.kind T.kg T.dg
  have hw : Within (fun y => if y = f then some v else none) [f] := fun y hy => by
    by_cases e : y = f
    · rw [e]; simp
    · exact absurd (if_neg e) hy
  obtain ⟨oD, _, _, hoD, _, _⟩ := hn3.count hw
  refine set_plain X3 (ox := { cls := .ref C, dict := some dx, data := .fields #[.ref t1, .none, .none, .none, .bool false, .none] }) (od := some oD) ⟨hx3, rfl, rfl, hoD⟩ O.sa ?_
  refine PySem.OEX.osa_old X3 hx3 hn3 hw (by show 1 ≤ 1000; decide) hcls hmro hdct hno2 (fun h4 tk4 k4 hn4 => ?_)
  have z : s.heap.objs.size < h2.objs.size := hn2.lt
  have dbig : s.heap.objs.size ≤ dx := Nat.le_of_lt (Nat.lt_of_lt_of_le z dn)
  have olddx : ∀ {b : Addr} {o : Obj}, s.heap.get? b = some o → b ≠ dx := fun {b o} e => Nat.ne_of_lt (Nat.lt_of_lt_of_le (Heap.lt_size e) dbig)
  exact wpAny_execs_nil (hq h4 tk4 dx t1 ⟨fun b o hb e => k4 b o (olddx e) (k3 b o hb (k2 b o hb (k1 b o e))), k4 _ _ dne.symm hx3, dbig, dne, hn4⟩)
/-- a made error -/
structure ErrMade (h h' : Heap) (e C d : Addr) (ms : Str → Option Value) : Prop where
  keep : ∀ b o, h.get? b = some o → h'.get? b = some o
  new : h.objs.size ≤ e
  obj : ∃ oe vs, h'.get? e = some oe ∧ oe.cls = .ref C ∧ oe.dict = some d ∧ oe.data = .fields vs ∧ vs[1]? = some .none
  dbig : h.objs.size ≤ d
  dne : d ≠ e
  ns : h'.Ns1 d ms
/-- C(..): the record, then the own __init__ -/
theorem err_made {us : List Value} {ms : Str → Option Value} (O : OexC K C) (iC : findIn K (.ref C) "__init__" = some (some (.ref fI))) (tI : typeIn K (.ref fI) = some (.type "function")) (X : K.In s.heap) (hus : us.length ≤ sizeLine)
    (hi : ∀ (A1 : Around) (R1 : Result → Shared → Prop) (s1 : Shared) (x t0 : Addr), A1.depth = A.depth + 1 → K.In s1.heap → (∀ b o, s.heap.get? b = some o → s1.heap.get? b = some o) → s1.heap.get? x = some (excO C t0) → K.lookup x = none →
      (∀ h' tk dx t1, ErrEnd s1.heap h' x C dx t1 ms → R1 (.ok (.ret .none)) { s1 with heap := h', toks := tk }) → codeAny (model prog w) A1 (.call (.ref fI) ⟨.ref x :: us, []⟩) R1 s1)
    (hq : ∀ h' tk e d, ErrMade s.heap h' e C d ms → R (.ok (.ret (.ref e))) { s with heap := h', toks := tk }) :
    codeAny (model prog w) A (.call (.ref C) ⟨us, []⟩) R s := by
  obtain ⟨nm, q, N, bs, bm, sn, sub, ab, col, dd, k0, k1, k2, k3, k5, hC, hbm⟩ := O.cls
  obtain ⟨hp, g, dr, tk, os⟩ := s
  have k : ∀ b o, hp.get? b = some o → ((hp.push (kdv_tup us)).push (excO C hp.objs.size)).get? b = some o := fun b o e => Heap.get?_push_of_some _ (Heap.get?_push_of_some _ e)
  have hget : ((hp.push (kdv_tup us)).push (excO C hp.objs.size)).get? (hp.objs.size + 1) = some (excO C hp.objs.size) := by heap_get
  have hnx : K.lookup (hp.objs.size + 1) = none := by
    cases e : K.lookup (hp.objs.size + 1) with
    | none => rfl
    | some o =>
      have z : hp.get? (hp.objs.size + 1) = some o := X _ _ e
      exact absurd (Nat.lt_of_succ_lt (Heap.lt_size z)) (Nat.lt_irrefl _)
  refine call_own F.excBase_ValueError (fun X => refsVE_contains X bm hbm) (X _ _ hC) (looks_findIn X iC) (fun self => bind_fn X self tI) hus ?_
  refine hi _ _ ⟨(hp.push (kdv_tup us)).push (excO C hp.objs.size), g, dr, tk, os⟩ (hp.objs.size + 1) hp.objs.size rfl (X.keeps k) k hget hnx fun h' tk' dx t1 ⟨k', hx, dn, dne, hns⟩ => ?_
  have old : ∀ b o, hp.get? b = some o → h'.get? b = some o := fun b o e => k' b o (Nat.ne_of_lt (Nat.lt_succ_of_lt (Heap.lt_size e))) (k b o e)
  have z : hp.objs.size + 1 + 1 ≤ dx := by
    have q := dn
    rw [Heap.size_push, Heap.size_push] at q
    exact q
  exact ⟨rfl, hq h' tk' (hp.objs.size + 1) dx ⟨old, Nat.le_succ _, ⟨_, _, hx, rfl, rfl, rfl, rfl⟩, Nat.le_trans (Nat.le_trans (Nat.le_succ _) (Nat.le_succ _)) z, dne, hns⟩⟩
end
/-- what the texts and the written part say of an error class with one kept argument -/
structure Err1 (P : Program) (K : PySem.W.Frag) (mg : Str → Option Value) (x : Str) (C fI : Addr) (st : Stmt) (qual f : Str) : Prop where
  g : mg x = some (.ref C)
  O : OexC K C
  S : SupFn P K C fI st qual
  T : Txt1 st f
  no : PySem.W.findIn K (.ref C) f = some none
  iC : PySem.W.findIn K (.ref C) "__init__" = some (some (.ref fI))
  tI : PySem.W.typeIn K (.ref fI) = some (.type "function")
  b : ∀ (s : Shared) (kV doc pm : Value) (an : Option Addr) (cdv ct : Value) (cc : Addr) (a v : Value), BindsTo s (PySem.W.ksFn "__init__" qual (defArgs st) (defBody st) (defScope st) .none kV doc pm an cdv ct cc) ⟨[a, v], []⟩ [("self", a), (f, v)]
  su : mg "super" = none
structure Err2 (P : Program) (K : PySem.W.Frag) (mg : Str → Option Value) (x : Str) (C fI : Addr) (st : Stmt) (qual f f2 : Str) : Prop where
  g : mg x = some (.ref C)
  O : OexC K C
  S : SupFn P K C fI st qual
  T : Txt2 st f f2
  no : PySem.W.findIn K (.ref C) f = some none
  no2 : PySem.W.findIn K (.ref C) f2 = some none
  iC : PySem.W.findIn K (.ref C) "__init__" = some (some (.ref fI))
  tI : PySem.W.typeIn K (.ref fI) = some (.type "function")
  b : ∀ (s : Shared) (kV doc pm : Value) (an : Option Addr) (cdv ct : Value) (cc : Addr) (a v u : Value), BindsTo s (PySem.W.ksFn "__init__" qual (defArgs st) (defBody st) (defScope st) .none kV doc pm an cdv ct cc) ⟨[a, v, u], []⟩ [("self", a), (f, v), (f2, u)]
  su : mg "super" = none
section
variable {X : Cx} {x f f2 qual : Str} {C fI : Addr} {st : Stmt} {e : Expr} {es : List Expr} {ta : TA} {p pos : Pos} {k : Nat}
theorem relO_one {f : Str} {v : V} {v' : Value} (r : RelV v v') (y : Str) : RelO (List.lookup y [(f, v)]) (if y = f then some v' else none) := relO_put (fs := []) (mA := fun _ => none) r (fun _ => True.intro) y
theorem relO_two {f g : Str} {v u : V} {v' u' : Value} (r : RelV v v') (q : RelV u u') (y : Str) : RelO (List.lookup y [(g, u), (f, v)]) (if y = g then some u' else if y = f then some v' else none) := relO_put (fs := [(f, v)]) q (relO_one r) y
/-- the end of C(..): the error is in the air, its dict is tracked -/
theorem mk_err {pins : List (Addr × Obj)} {σ : L2.St} {H1 : Hp} {Q : XK} {hp h' : Heap} {g : Array GenState} {dr : Drawn} {tk tk' : Nat} {os : OsState} {er d : Addr} {ms : Str → Option Value} {fs : List (Str × V)} (O : OexC X.K C) (I1 : Inv X pins σ H1 ⟨hp, g, dr, tk, os⟩)
    (M : ErrMade hp h' er C d ms) (rel : ∀ y, RelO (List.lookup y fs) (ms y)) (q1 : ∀ d, H1 d = none → Q (.ref C) (some d) (upd H1 d (.xd fs))) : MkP X pins σ Q (.ref er) ⟨h', g, dr, tk', os⟩ := by
  obtain ⟨oe, fv, hoe, hc, hd, hdat, h1⟩ := M.obj
  have hns := M.ns
  obtain ⟨G', g1, g2⟩ := restrict h' fun b => decide (b ≠ er)
  have gk : ∀ b, b ≠ er → G'.get? b = h'.get? b := fun b hb => g1 b (decide_eq_true hb)
  have ge : G'.get? er = none := g2 er (by simp)
  have old : ∀ b o, hp.get? b = some o → G'.get? b = some o := fun b o q => (gk b (Nat.ne_of_lt (Nat.lt_of_lt_of_le (Heap.lt_size q) M.new))).trans (M.keep b o q)
  have ob : ObjOk X.prog X.w (upd H1 d (.xd fs)) G' d (.xd fs) := ⟨_, hns.at (fun o q => (gk d M.dne).trans q), rel⟩
  have J : Inv X pins σ (upd H1 d (.xd fs)) ⟨G', g, dr, tk', os⟩ := I1.laid (t' := tk') old M.dbig ob
  refine ⟨er, oe, fv, ⟨G', g, dr, tk', os⟩, _, .ref C, some d, rfl, J, fun b o q => ?_, ge, hoe, ⟨hc, hd⟩, hdat, h1, ?_, rfl, I1.bare, raises_own O.exC O.tyC, q1 d (I1.hok.fresh M.dbig)⟩
  · by_cases hb : b = er
    · have q' : G'.get? b = some o := q
      rw [hb, ge] at q'; cases q'
    · exact (gk b hb).symm.trans q
  · rw [upd_ne (Ne.symm M.dne)]
    exact I1.hok.fresh M.new
/-- C(e) -/
def tMkE1 (C : Addr) (f : Str) (ta : TA) : L2.St → Hp → XK → Prop := fun σ H Q => ta σ H fun vs H1 => ∃ v, vs = [v] ∧ ∀ d, H1 d = none → Q (.ref C) (some d) (upd H1 d (.xd [(f, v)]))
theorem pmk_err1 (R : Err1 X.prog X.K X.mg x C fI st qual f) (hr : Room k X.A) (hg : Gl X x) (ha : PA X (e :: es) ta) (hdb : (x == ("__debug__" : Str)) = false := by decide)
    (he : starEach (e :: es) X.env = (false, eval e X.env) :: starEach es X.env := by rfl) (hpl : (backTo pos (starEach es X.env)).any (·.1) = false := by rfl) :
    PMk X (.Call (.Name x p) (e :: es) [] pos) (tMkE1 C f ta) := by
  intro pins s σ H Q I h
  refine wpAny_Call_Name_kw (ld_glob I hg R.g ?_ hdb)
  refine PySem.W.callWith_K (h₀ := X.base) I.ok.mod.kin R.O.kC (thn (ha.run pos pins s σ H _ I h) ?_) he hpl
  rintro us s1 ⟨vs, H1, I1, r1, v, rfl, q1⟩
  refine ⟨I1.kIn, ?_⟩
  obtain ⟨u, rfl, rv⟩ := vals1 r1
  obtain ⟨mb, hbn, hbb⟩ := I1.ok.mod.blt
  have bk := I1.bk
  have hlim := I1.nolimit
  obtain ⟨hp, g, dr, tk, os⟩ := s1
  refine wpAny_call (err_made R.O R.iC R.tI I1.kIn (by rw [sizeLine_eq]; show 1 ≤ 16777216; decide) (ms := fun y => if y = f then some u else none) ?_ fun h' tk' er d M => ?_)
  · intro A1 R1 s1 y t0 hd hK hk hx hnx hq
    have kb : ∀ b o, X.base.get? b = some o → s1.heap.get? b = some o := fun b o q => hk b o (bk b o q)
    exact err_init1 R.O R.S R.T R.no (fun kV doc pm an cdv ct cc => R.b _ kV doc pm an cdv ct cc _ _) hK (I1.ok.mod.glob.keeps kb) R.su (hbn.keeps kb) ((hbb _ (by decide +kernel)).trans (by decide +kernel)) (hlim.keeps hk) hx hnx (by have := hr.dp; omega) hq
  · exact mk_err R.O I1 M (relO_one rv) q1
/-- C(e, e') -/
def tMkE2 (C : Addr) (f f2 : Str) (ta : TA) : L2.St → Hp → XK → Prop := fun σ H Q => ta σ H fun vs H1 => ∃ v u, vs = [v, u] ∧ ∀ d, H1 d = none → Q (.ref C) (some d) (upd H1 d (.xd [(f2, u), (f, v)]))
theorem pmk_err2 (R : Err2 X.prog X.K X.mg x C fI st qual f f2) (hr : Room k X.A) (hg : Gl X x) (ha : PA X (e :: es) ta) (hdb : (x == ("__debug__" : Str)) = false := by decide)
    (he : starEach (e :: es) X.env = (false, eval e X.env) :: starEach es X.env := by rfl) (hpl : (backTo pos (starEach es X.env)).any (·.1) = false := by rfl) :
    PMk X (.Call (.Name x p) (e :: es) [] pos) (tMkE2 C f f2 ta) := by
  intro pins s σ H Q I h
  refine wpAny_Call_Name_kw (ld_glob I hg R.g ?_ hdb)
  refine PySem.W.callWith_K (h₀ := X.base) I.ok.mod.kin R.O.kC (thn (ha.run pos pins s σ H _ I h) ?_) he hpl
  rintro us s1 ⟨vs, H1, I1, r1, v, u0, rfl, q1⟩
  refine ⟨I1.kIn, ?_⟩
  obtain ⟨v', u', rfl, rv, ru⟩ := vals2 r1
  obtain ⟨mb, hbn, hbb⟩ := I1.ok.mod.blt
  have bk := I1.bk
  have hlim := I1.nolimit
  obtain ⟨hp, g, dr, tk, os⟩ := s1
  refine wpAny_call (err_made R.O R.iC R.tI I1.kIn (by rw [sizeLine_eq]; show 2 ≤ 16777216; decide) (ms := fun y => if y = f2 then some u' else if y = f then some v' else none) ?_ fun h' tk' er d M => ?_)
  · intro A1 R1 s1 y t0 hd hK hk hx hnx hq
    have kb : ∀ b o, X.base.get? b = some o → s1.heap.get? b = some o := fun b o q => hk b o (bk b o q)
    exact err_init2 R.O R.S R.T R.no R.no2 (fun kV doc pm an cdv ct cc => R.b _ kV doc pm an cdv ct cc _ _ _) hK (I1.ok.mod.glob.keeps kb) R.su (hbn.keeps kb) ((hbb _ (by decide +kernel)).trans (by decide +kernel)) (hlim.keeps hk) hx hnx (by have := hr.dp; omega) hq
  · exact mk_err R.O I1 M (relO_two rv ru) q1
end
end Sn

/-! ## Errors caught and kept: try .. except C as n: m = n; isinstance and attributes of what is kept -/
namespace Sn
open PySem PySem.Spec PyProof.Rows L2
/-- a caught error that is kept: its class, its dict -/
def ExK (cls : Value) (d : Option Addr) (a : Addr) : HO := .ext fun h => ∃ (oe : Obj) (vs : Array Value), h.get? a = some oe ∧ Zc cls d oe ∧ oe.data = .fields vs
theorem exK_at {P : Program} {w : World} {H : Hp} {h : Heap} {a : Addr} {cls : Value} {d : Option Addr} (x : HOk P w H h) (e : H a = some (ExK cls d a)) : ∃ (oe : Obj) (vs : Array Value), h.get? a = some oe ∧ Zc cls d oe ∧ oe.data = .fields vs := by
  have z : ObjOk P w H h a (.ext fun h => ∃ (oe : Obj) (vs : Array Value), h.get? a = some oe ∧ Zc cls d oe ∧ oe.data = .fields vs) := x a _ e
  exact z.1
section
variable {X : Cx} {pins : List (Addr × Obj)} {σ : L2.St} {H : Hp} {s : Shared}
/-- what was pinned is tracked -/
theorem inv_track {a : Addr} {oe : Obj} {vs : Array Value} {cls : Value} {d : Option Addr} (I : Inv X ((a, oe) :: pins) σ H s) (z : Zc cls d oe) (hd : oe.data = .fields vs) (h0 : X.s_0.heap.get? a = none) (np : ∀ p ∈ X.pn ++ pins, p.1 ≠ a) :
    Inv X pins σ (upd H a (ExK cls d a)) s := by
  obtain ⟨ha, na, nL, nF, _⟩ := I.pin (a, oe) (List.mem_append_right _ (List.mem_cons.mpr (.inl rfl)))
  have nb : ∀ {b : Addr} {o : Obj}, X.s_0.heap.get? b = some o → b ≠ a := fun {b o} e q => by rw [q, h0] at e; cases e
  have nt : ∀ {b : Addr} {o : HO}, H b = some o → b ≠ a := fun {b o} e q => by rw [q, na] at e; cases e
  have new : ObjOk X.prog X.w (upd H a (ExK cls d a)) s.heap a (ExK cls d a) :=
    ⟨⟨oe, vs, ha, z, hd⟩, ⟨oe, ha⟩, fun _ _ ⟨o, v, q, r⟩ k => ⟨o, v, k o q, r⟩⟩
  refine ⟨I.ok, I.os, I.bare, ⟨I.base.keep, I.base.slot, ?_, I.base.there, ?_, ?_, ?_⟩, I.loc, I.cell, ?_, ?_, ?_, ?_, I.len⟩
  · intro b o e n hx
    rw [upd_ne (nb e)]
    exact I.base.free b o e n hx
  · intro b xs e
    have q := I.base.tups b xs e
    rw [upd_ne (nt q)]; exact q
  · intro b o xs e
    have q := I.base.frzs b o xs e
    rw [upd_ne (nt q)]; exact q
  · intro b ps e
    obtain ⟨m, q⟩ := I.base.tbls b ps e
    exact ⟨m, by rw [upd_ne (nt q)]; exact q⟩
  · rw [upd_ne nL.symm]; exact I.free
  · intro x c e
    obtain ⟨v, o, ho, hc⟩ := I.cell x c e
    have nc : c ≠ a := fun q => by
      rw [q, ha] at ho
      cases ho
      rw [hd] at hc
      cases hc
    rw [upd_ne nc]; exact I.freeC x c e
  · intro p hp
    have mem : p ∈ X.pn ++ ((a, oe) :: pins) := by
      rcases List.mem_append.mp hp with q | q
      · exact List.mem_append_left _ q
      · exact List.mem_append_right _ (List.mem_cons_of_mem _ q)
    obtain ⟨e1, e2, e3, e4, e5⟩ := I.pin p mem
    exact ⟨e1, by rw [upd_ne (np p hp)]; exact e2, e3, e4, e5⟩
  · intro b u e
    by_cases hb : b = a
    · subst hb
      rw [upd_same] at e
      cases e
      exact new
    · rw [upd_ne hb] at e
      exact (I.hok b u e).stay (fun _ _ _ q => q) (fun c q => by rw [upd_ne (nt q)]; exact q) fun c xs q => by rw [upd_ne (nt q)]; exact q
/-- how the suite ends: next, the error is tracked -/
abbrev kpEnds (D : Ends) (i : Nat) (a : Addr) (cls : Value) (d : Option Addr) : Ends :=
  { nx := fun σ' H' => H' a = none → D.nx (σ'.set i none) (upd H' a (ExK cls d a)), rt := fun _ _ => False, bk := fun _ _ => False, ct := fun _ _ => False }
/-- what the clause wishes of an error of the body: it is of the class, and the suite runs -/
def wKp (K : PySem.W.Frag) (c : Value) (i : Nat) (ts : Addr → Value → Option Addr → TS) (D : Ends) : WX := fun cls d σ H =>
  PySem.W.exmOne K cls c = some true ∧ ∀ a, H a = none → ts a cls d (kpEnds D i a cls d) (σ.set i (some (.ref a))) H
/-- try: body / except x as n: suite, where the suite keeps the error -/
theorem ps_try_keep {x n : Str} {c : Value} {i : Nat} {body suite : List Stmt} {b₀ : Stmt} {np pos pos' : Pos} {tb : WX → TS} {ts : Addr → Value → Option Addr → TS}
    (hs : X.stack = X.env :: X.outer) (hf : X.env.frame = some X.env.locals) (hex : X.ex = []) (hN : X.N.Nodup) (hi : X.N[i]? = some n) (hln : X.env.kindOf n = some .local) (hc : L2.Names X x c)
    (hb : ∀ (W : WX) (pn : List (Addr × Obj)) (xe : Value → Shared → Prop), Takes (X.tr pn xe) W → PassesOwn (model X.prog X.w) X.A X.env xe → PSs (X.tr pn xe) body (tb W))
    (hsu : ∀ (a : Addr) (oe : Obj) (cls : Value) (d : Option Addr) (pn : List (Addr × Obj)), Zc cls d oe → (∃ vs, oe.data = .fields vs) → PSs (X.suite a ((a, oe) :: pn)) (b₀ :: suite) (ts a cls d)) :
    PS X (.Try body [.ExceptHandler (some (.Name x np)) (some n) (b₀ :: suite) pos'] [] [] pos) (fun D σ H => tb (wKp X.K c i ts D) D σ H) := by
  refine ⟨fun pins s σ H D I h => ?_⟩
  have okX := I.ok
  have frm : X.A.frames = some (X.env :: X.outer) := okX.frames.trans (by rw [hs])
  refine wpAny_Try_except ?_
  have run := (hb (wKp X.K c i ts D) (X.pn ++ pins) (fun e s1 => wpAny (model X.prog X.w) X.A (noteFrame e X.env) (fun _ s2 => wpAny (model X.prog X.w) X.A (setFlight e none)
    (fun _ s3 => wpAny (model X.prog X.w) X.A (handleBy e X.env [.ExceptHandler (some (.Name x np)) (some n) (b₀ :: suite) pos']) (SP X pins D) X.xe s3) X.xe s2) X.xe s1) ?caught PassesOwn.looking).run [] s σ H D (I.toTry _) h
  case caught =>
    rintro u s1 ⟨a, B, sI, pins', σ1, H1, cls, d, rfl, J0, nb, up, sky, na, os, ag, hyes, hsuite⟩
    have J : Inv X pins σ1 H1 sI := J0.ofTry okX
    rw [hs] at sky
    refine Sky.land Zc.steady frm hf sky fun h2 fl2 up2 => ?_
    obtain ⟨o2, v2, g2, z2, d2⟩ := fl2.there
    have nst : a ∉ frs (X.env :: X.outer) := fun hm => by
      obtain ⟨_, o, g, no⟩ := fl2.2.2.1.mem hm
      rw [g2] at g
      cases g
      exact no _ d2
    have nL : a ≠ X.env.locals := fun q => nst (List.mem_filterMap.mpr ⟨X.env, List.mem_cons.mpr (.inl rfl), by rw [hf, q]⟩)
    have nF : a ∉ X.fs := fun hm => by
      obtain ⟨e, he, q⟩ := List.mem_filterMap.mp hm
      exact nst (List.mem_filterMap.mpr ⟨e, List.mem_cons_of_mem _ he, q⟩)
    have nB : B.get? a = none := fl2.2.1
    -- nothing of the entry stands at a, nor a pin
    have onB : ∀ {b : Addr} {o : Obj}, sI.heap.get? b = some o → b ∉ frs X.stack → b ≠ a := fun {b o} e hb q => by
      have := nb b o e hb
      rw [q, nB] at this; cases this
    have fr0 : X.s_0.heap.get? a = none := by
      cases e : X.s_0.heap.get? a with
      | none => rfl
      | some o =>
        obtain ⟨o', e'⟩ := J.base.there a o e (by rw [hex]; simp)
        exact absurd rfl (onB e' (by rw [hs]; exact nst))
    have npn : ∀ p ∈ X.pn ++ pins, p.1 ≠ a := fun p hp => by
      obtain ⟨e1, _, e3, e4, _⟩ := J.pin p hp
      refine onB e1 fun hm => ?_
      rw [hs] at hm
      obtain ⟨v, hv, q⟩ := List.mem_filterMap.mp hm
      rcases List.mem_cons.mp hv with rfl | hv
      · rw [hf] at q
        exact e3 (Option.some.inj q).symm
      · exact e4 (List.mem_filterMap.mpr ⟨v, hv, q⟩)
    have J2 : Inv X pins σ1 H1 { s1 with heap := h2 } := J.landed nb fl2.1 (up.trans up2) os ag
    have S2 := J2.suite g2 d2 na nL nF
    refine wpAny_handleBy_cons (codeAny_handlers_test ?_) (by intro q; cases q)
    have ty : PySem.W.Looks (model X.prog X.w) h2 (typeOf (.ref a)) cls := fun A' Q' E' s' k q => wpAny_typeOf_ref (k _ _ g2) (by rw [z2.1]; exact q)
    have hit := PySem.W.exm_one (M := model X.prog X.w) J2.kIn ty hyes
    have name : ∀ {Q : Value → Shared → Prop} {E : Value → Shared → Prop}, Q c { s1 with heap := h2 } → wpAny (model X.prog X.w) (X.A.mark (some (.ref a))) (eval (.Name x np) X.env) Q E { s1 with heap := h2 } := by
      intro Q E q
      obtain ⟨hg, hdb, hm | ⟨hm, hv, hnn⟩⟩ := hc
      · exact ld_glob (X := X.suite a ((a, o2) :: (X.pn ++ pins))) S2 hg hm q hdb
      · exact ld_blt (X := X.suite a ((a, o2) :: (X.pn ++ pins))) S2 hg hm hv q hnn hdb
    refine name (hit.here (codeAny_handlers_suite_as ?_))
    refine HandSPX.lands_againZ fl2 fun h3 fl3 up3 => ?_
    obtain ⟨o3, v3, g3, z3, d3⟩ := fl3.there
    have J3 : Inv X pins σ1 H1 { s1 with heap := h3 } := J.landed nb fl3.1 ((up.trans up2).trans up3) os ag
    have S3 := J3.suite g3 d3 na nL nF
    refine store_ok (X := X.suite a ((a, o3) :: (X.pn ++ pins))) (v := .ref a) S3 hN hi (.inl hln) rfl (fun s4 S4 => ?_) (.inr hln)
    refine wpAny_mono ((hsu a o3 cls d (X.pn ++ pins) z3 ⟨_, d3⟩).run [] s4 _ H1 _ S4 (hsuite a na)) (fun f s5 q5 => ?_) fun _ _ q => False.elim q
    match f, q5 with
    | .next, ⟨σ5, H5, S5, q5⟩ =>
      have J5 : Inv X ((a, o3) :: pins) σ5 H5 s5 := by
        refine ⟨okX, S5.os, S5.bare, S5.base, S5.loc, S5.cell, S5.free, S5.freeC, fun p hp => S5.pin p ?_, S5.hok, S5.len⟩
        rw [List.append_nil]
        rcases List.mem_append.mp hp with q | q
        · exact List.mem_cons_of_mem _ (List.mem_append_left _ q)
        · rcases List.mem_cons.mp q with q | q
          · rw [q]; exact List.mem_cons.mpr (.inl rfl)
          · exact List.mem_cons_of_mem _ (List.mem_append_right _ q)
      refine gone_ok J5 hN hi hln fun s6 J6 => ?_
      have nH : H5 a = none := (J6.pin (a, o3) (List.mem_append_right _ (List.mem_cons.mpr (.inl rfl)))).2.1
      exact ⟨_, _, inv_track J6 z3 d3 fr0 npn, q5 nH⟩
    | .brk, ⟨_, _, _, q5⟩ => exact q5.elim
    | .cont, ⟨_, _, _, q5⟩ => exact q5.elim
    | .ret _, ⟨_, _, _, _, _, q5⟩ => exact q5.elim
  refine wpAny_mono run (fun f s1 q => ?_) fun _ _ q => q
  match f, q with
  | .next, ⟨σ1, H1, J1, q⟩ => exact wpAny_execs_nil ⟨σ1, H1, J1.ofTry okX, q⟩
  | .brk, ⟨σ1, H1, J1, q⟩ => exact ⟨σ1, H1, J1.ofTry okX, q⟩
  | .cont, ⟨σ1, H1, J1, q⟩ => exact ⟨σ1, H1, J1.ofTry okX, q⟩
  | .ret u, ⟨v, σ1, H1, J1, r, q⟩ => exact ⟨v, σ1, H1, J1.ofTry okX, r, q⟩
/-- the dict of a kept error stands -/
def XdOk (H : Hp) (d : Option Addr) : Prop := d = none ∨ ∃ dd fs, d = some dd ∧ H dd = some (.xd fs)
theorem exK_inst {a D : Addr} {d : Option Addr} (I : Inv X pins σ H s) (e : H a = some (ExK (.ref D) d a)) (hd : XdOk H d) : ∃ ox od, PySem.W.InstAt s.heap a ox D od := by
  obtain ⟨oe, vs, g, ⟨z1, z2⟩, dt⟩ := exK_at I.hok e
  have nc : PySem.W.notCls oe = true := by unfold PySem.W.notCls; rw [dt]
  rcases hd with rfl | ⟨dd, fs, rfl, hx⟩
  · exact ⟨oe, none, g, z1, nc, by rw [z2]; trivial⟩
  · obtain ⟨mA, ⟨od, es, ep, ho, _⟩, _⟩ := (show ObjOk X.prog X.w H s.heap dd (.xd fs) from I.hok dd _ hx)
    exact ⟨oe, some od, g, z1, nc, by rw [z2]; exact ho⟩
/-- isinstance(e, c), e a kept error -/
def rIsX (K : PySem.W.Frag) : List V → Hp → VK → Prop := fun xs H Q => ∃ (a D : Addr) (d : Option Addr) (c : V) (cv : Value) (b : Bool), xs = [.ref a, c] ∧ H a = some (ExK (.ref D) d a) ∧ XdOk H d ∧ ExcC K D ∧ ClsV c cv ∧
  PySem.W.kitOne K (.ref D) cv = some b ∧ Q (.bl b) H
theorem call_isX : CallR X (.builtin "isinstance") (rIsX X.K) := by
  intro pins s σ H xs us Q I r h
  obtain ⟨a, D, d, c, cv, b, rfl, ha, hd, C, kc, e, q⟩ := h
  obtain ⟨u1, u2, rfl, r1, r2⟩ := vals2 r
  cases r1
  have ec := kc.eq r2
  subst ec
  obtain ⟨ox, od, J⟩ := exK_inst I ha hd
  have hcl : (PySem.W.clsIn X.K D).isSome = true := by
    obtain ⟨cd, hc, _⟩ := PySem.W.any_some C.hd
    rw [hc]; rfl
  exact PySem.W.kia_one (PySem.W.kitx_exc hcl C.hg C.hk C.hs C.ha C.hn C.ht C.hm) I.kIn J e (fun z => nomatch z) fun tk => ⟨.bl b, H, I.tok tk, rfl, q⟩
/-- e.f, e a kept error -/
def tXk (K : PySem.W.Frag) (f : Str) (te : TE) : TE := fun σ H Q => te σ H fun x H1 => ∃ (a C dd : Addr) (fs : List (Str × V)) (v : V), x = .ref a ∧ H1 a = some (ExK (.ref C) (some dd) a) ∧ H1 dd = some (.xd fs) ∧ fs.lookup f = some v ∧
  XfC K C ∧ PySem.W.findIn K (.ref C) f = some none ∧ Q v H1
theorem pe_xk {e : Expr} {te : TE} {pos : Pos} {f : Str} (he : PE X e te) (hb : attributeBase e f X.env (eval e X.env) = eval e X.env := by rfl) : PE X (.Attribute e f pos) (tXk X.K f te) := by
  refine ⟨fun pins s σ H Q I h => attr_of hb (thn (he.run pins s σ H _ I h) ?_)⟩
  rintro u s1 ⟨y, H1, I1, ry, a, C, dd, fs, v, rfl, ha, hx, l, T, hno, q⟩
  cases ry
  obtain ⟨oe, vs, g, ⟨z1, z2⟩, dt⟩ := exK_at I1.hok ha
  obtain ⟨mA, hns, rel⟩ := (show ObjOk X.prog X.w H1 s1.heap dd (.xd fs) from I1.hok dd _ hx)
  obtain ⟨od, ho, hl⟩ := lookIn_ns hns
  obtain ⟨u, hu, ru⟩ := RelO.some_of (v := v) (o := mA f) (by rw [← l]; exact rel f)
  have J : PySem.W.InstAt s1.heap a oe C (some od) := ⟨g, z1, by unfold PySem.W.notCls; rw [dt], by rw [z2]; exact ho⟩
  exact HandSPX.exc_get I1.kIn J T.ga T.gg T.exC (PySem.W.findObj_own T.hdC hno rfl (by rw [hl, hu])) (handed_of ru) ⟨v, H1, I1.tok _, ru, q⟩
end
end Sn

/-! ## Rules of our own: bool(o), o == v of any v, repr of scalars -/
namespace Sn
open PySem PySem.Spec PyProof.Rows L2
def isTy : Value → Bool
  | .type _ => true
  | _ => false
/-- a built-in type is no own class -/
theorem sub_own {K : PySem.W.Frag} {T : String} (C : Addr) (h : ((fastBuiltinMro T).map fun l => l.all isTy) = some true) : PySem.W.subIn K (.type T) (.ref C) = some false := by
  show (fastBuiltinMro T).map (·.contains (.ref C)) = _
  cases e : fastBuiltinMro T with
  | none => rw [e] at h; cases h
  | some l =>
    rw [e] at h
    have hl : l.all isTy = true := Option.some.inj h
    show some (l.contains (.ref C)) = _
    congr 1
    refine Bool.eq_false_iff.mpr fun q => ?_
    have := List.all_eq_true.mp hl _ (List.contains_iff_mem.mp q)
    cases this
theorem kit_not {K : PySem.W.Frag} {T : String} {C : Addr} (hc : (PySem.W.clsIn K C).isSome = true) (ht : PySem.W.typeIn K (.ref C) = some (.type "type")) (h : PySem.W.subIn K (.type T) (.ref C) = some false) : PySem.W.kitOne K (.type T) (.ref C) = some false := by
  unfold PySem.W.kitOne PySem.W.kitCls
  rw [if_neg (by simp)]
  show (if ((PySem.W.clsIn K C).isSome && PySem.W.typeIn K (.ref C) == some (.type "type")) = true then PySem.W.subIn K (.type T) (.ref C) else none) = _
  rw [if_pos (by rw [hc, ht]; rfl)]
  exact h
/-- a value of a built-in type that is met in the laws -/
inductive TyB (K : PySem.W.Frag) (H : Hp) : V → String → Prop
  | non : TyB K H .non "NoneType"
  | bl (b : Bool) : TyB K H (.bl b) "bool"
  | int (i : Int) : TyB K H (.int i) "int"
  | str (z : Str) : TyB K H (.str z) "str"
  | lst {a : Addr} {xs : List V} (h : H a = some (.lst xs)) : TyB K H (.ref a) "list"
  | tup {a : Addr} {xs : List V} (h : H a = some (.tup xs)) : TyB K H (.ref a) "tuple"
  | dK {a : Addr} {kvs : List (Key × V)} (h : H a = some (.dK kvs)) : TyB K H (.ref a) "dict"
theorem TyB.ty {K : PySem.W.Frag} {H : Hp} {v : V} {T : String} (h : TyB K H v T) : TyX K H v (.type T) := by
  cases h with
  | non => exact .base .non
  | bl b => exact .base (.bl b)
  | int i => exact .base (.int i)
  | str z => exact .base (.str z)
  | lst h => exact .base (.lst h)
  | tup h => exact .base (.tup h)
  | dK h => exact .base (.dK h)
theorem TyB.sub {K : PySem.W.Frag} {H : Hp} {v : V} {T : String} (h : TyB K H v T) (C : Addr) : PySem.W.subIn K (.type T) (.ref C) = some false := by
  cases h <;> exact sub_own C (by decide +kernel)
theorem TyB.same {K : PySem.W.Frag} {H H' : Hp} {v : V} {T : String} (h : TyB K H v T) (s : Same H H') : TyB K H' v T := by
  cases h with
  | non => exact .non
  | bl b => exact .bl b
  | int i => exact .int i
  | str z => exact .str z
  | lst h => exact .lst (s _ _ h)
  | tup h => exact .tup (s _ _ h)
  | dK h => exact .dK (s _ _ h)
section
variable {X : Cx} {CX : CXT} {k : Nat} {f C : Addr} {fd : FuncData} {ps : List Str} {sp : Sp} {E : XK}
/-- o == v, v of a built-in type, by an own __eq__ -/
theorem own_eqB (F : FnOk X.prog X.w X.K X.mg X.base CX k f fd ps sp) (hr : Room k X.A) (hs : PySem.W.findIn X.K (.ref C) "__eq__" = some (some (.ref f)))
    (hf : PySem.W.isFn X.K (.ref f) = true) (hb : Binds X.K fd ps []) (hx : Passes CX X E) :
    OpR X (compareOp .Eq) (fun x y H Q => ∃ a dx fs, x = .ref a ∧ H a = some (.ins C dx fs) ∧ ((∃ b dy gs, y = .ref b ∧ H b = some (.ins C dy gs)) ∨ ∃ T, TyB X.K H y T) ∧ sp [x, y] H (fun v H' => ∃ b, v = .bl b ∧ Q (.bl b) H') E) := by
  intro pins s σ H x y v u Q I rx ry h
  obtain ⟨a, dx, fs, rfl, ha, hy, q⟩ := h
  cases rx
  obtain ⟨ox, od, J⟩ := inst_at I ha
  obtain ⟨m, hF⟩ := I.fr
  have main : ∀ {tb : Value}, PySem.W.Looks (model X.prog X.w) s.heap (typeOf u) tb → PySem.W.notFirst X.K C tb = true → wpAny (model X.prog X.w) X.A (richCompare .Eq (.ref a) u) (EP X pins σ Q) X.xe s := by
    intro tb hty hnf
    refine PySem.W.cmp_K (op := .Eq) (tb := tb) hr.units0 hF I.ok.mod.kin J hty hnf hs hf ?_
    refine wpAny_mono (run_fn (us := [.ref a, u]) (vs := [.ref a, y]) F hr hb .nil hx I (.cons rfl (.cons ry .nil)) q) ?_ fun _ _ z => z
    rintro r s' ⟨z, H', I', rz, c, rfl, qq⟩
    cases rz
    exact ⟨.bl c, H', I', rfl, qq⟩
  show wpAny (model X.prog X.w) X.A (richCompare .Eq (.ref a) u) (EP X pins σ Q) X.xe s
  rcases hy with ⟨b, dy, gs, rfl, hb'⟩ | ⟨T, ht⟩
  · cases ry
    obtain ⟨oy, oe, J'⟩ := inst_at I hb'
    exact main J'.type (by simp [PySem.W.notFirst])
  · obtain ⟨P, Z, p, _⟩ := kit_of I ry ht.ty
    refine main (Z.ty _ _ I.kIn p) ?_
    unfold PySem.W.notFirst
    rw [ht.sub C]
    simp
/-- bool(o), by an own __bool__ -/
theorem own_bool (G : FnOk X.prog X.w X.K X.mg X.base CX k f fd ps sp) (hr : Room (k + 4) X.A) (hs : PySem.W.findIn X.K (.ref C) "__bool__" = some (some (.ref f)))
    (hf : PySem.W.isFn X.K (.ref f) = true) (hb : Binds X.K fd ps []) (hx : Passes CX X E) :
    CallR X (.type "bool") (fun xs H Q => ∃ a dx fs, xs = [.ref a] ∧ H a = some (.ins C dx fs) ∧ sp [.ref a] H (fun v H' => ∃ b, v = .bl b ∧ Q (.bl b) H') E) := by
  intro pins s σ H xs us Q I r h
  obtain ⟨a, dx, fs, rfl, ha, q⟩ := h
  obtain ⟨u, rfl, ru⟩ := vals1 r
  cases ru
  obtain ⟨ox, od, J⟩ := inst_at I ha
  obtain ⟨m, hF⟩ := I.fr
  refine ks_callType_codesW (Q₁ := fun obj s₁ => ∃ b H', obj = .bool b ∧ Inv X pins σ H' s₁ ∧ Q (.bl b) H') F.called_bool (fun h => wpAny_of_eq (F.typeCall_bool_1 _) h) F.entry_object_init ?_ ?_
  · refine codeAny_of_tree ?_
    show wpAny _ X.A.in1.in1 (do checkBuiltinCall "bool.__new__" ⟨[.type "bool", .ref a], []⟩; again (.builtin "bool.__new__" ⟨[.type "bool", .ref a], []⟩)) _ _ s
    refine wpAny_bind (wpAny_of_eq (F.newCall_bool_1 _) (wpAny_pure ⟨plainId_quiet (by decide +kernel) _, codeAny_builtin F.entry_bool_new ?_⟩))
    rw [Around.under_plainId (by decide +kernel) _]
    unfold Builtin.«bool.__new__»
    have f1 := F.conv_sub_bool
    have hl : (([Value.ref a] : List Value) ++ []).length = ps.length := by
      have := G.len _ _ _ _ q
      simpa using this
    have hbi := hb s [.ref a] I.kIn hl
    rw [List.append_nil] at hbi
    have tr : ∀ {Q' : Bool → Shared → Prop}, (∀ b s' H', Inv X pins σ H' s' → Q (.bl b) H' → Q' b s') → wpAny (model X.prog X.w) X.A.in1.in1 (truthy (.ref a)) Q' X.xe s := by
      intro Q' hQ'
      refine PySem.W.truthy_K hF I.ok.mod.kin J hs hf (wpAny_call (codeAny_mono (G.run X.A.in1.in1 X.stack s H ⟨[.ref a], []⟩ [.ref a] [.ref a] (fun v H' => ∃ b, v = .bl b ∧ Q (.bl b) H') E (hr.mono (j := k + 2) (by omega)).in1.in1 I.env0.in1.in1 hbi (.cons rfl .nil) q) ?_))
      intro r s' hq
      match r, hq with
      | .error e, hq => exact hx pins σ H s e s' I hq
      | .ok (.ret u), hq =>
        obtain ⟨z, H', I', rz, b, rfl, qq⟩ := I.after hq
        cases rz
        exact hQ' b s' H' I' qq
      | .ok .next, hq => exact False.elim hq
      | .ok .brk, hq => exact False.elim hq
      | .ok .cont, hq => exact False.elim hq
    have fin : ∀ {Q' : Bool → Shared → Prop} {E' : Value → Shared → Prop}, (∀ b s' H', Inv X pins σ H' s' → Q (.bl b) H' → Q' b s') → (∀ e s', X.xe e s' → E' e s') → wpAny (model X.prog X.w) X.A.in1.in1 (truthy (.ref a)) Q' E' s :=
      fun h1 h2 => wpAny_mono (tr h1) (fun _ _ z => z) h2
    obtain ⟨hp, g, d, tk, os⟩ := s
    repeat (any_goals (first | assumption | (with_reducible refine fin ?_ (fun _ _ z => z)) | wp_step))
    intro b s' H' I' qq
    exact wpAny_pure ⟨b, H', rfl, I', qq⟩
  · rintro obj s1 ⟨b, H', rfl, I', qq⟩
    refine ⟨rfl, F.args_object_init_2 _ _, ?_⟩
    exact object_init_meets F.called_bool.init.lookup F.called_bool.made F.newNe_bool _ _ _ _ _ ⟨rfl, rfl, .bl b, H', I', rfl, qq⟩
/-- repr of what is no container -/
def shV : V → Option Str
  | .non => some "None"
  | .bl b => some (if b then "True" else "False")
  | .int i => some (toString i)
  | _ => none
theorem call_reprS : CallR X (.builtin "repr") (fun xs H Q => ∃ (x : V) (z : Str), xs = [x] ∧ shV x = some z ∧ (∀ i, x = .int i → i.natAbs.log2 < 1920) ∧ Q (.str z) H) := by
  intro pins s σ H xs us Q I r h
  obtain ⟨x, z, rfl, hz, hi, q⟩ := h
  obtain ⟨u, rfl, ru⟩ := vals1 r
  cases x <;> first | (cases hz; done) | skip
  · cases ru
    cases hz
    exact PySem.P.repr_of_none ⟨.str _, H, I.tok _, ⟨_, rfl⟩, q⟩
  · cases ru
    cases hz
    exact PySem.P.repr_of_bool ⟨.str _, H, I.tok _, ⟨_, rfl⟩, q⟩
  · obtain ⟨t, rfl⟩ := ru
    cases hz
    exact PySem.P.repr_of_int (hi _ rfl) ⟨.str _, H, I.tok _, ⟨_, rfl⟩, q⟩
end
end Sn

/-! ## x != text, x a dict -/
namespace Sn
open PySem PySem.Spec PyProof.Rows L2
theorem str_ne_dict (b : Str) (u : Tok) (l : Addr) (es : Array DictEntry) (ep : Nat) (dd : Option Addr) (sl : Array (Option Value)) :
    Meets (Builtin.«str.__ne__» ⟨[.str b u, .ref l], []⟩) (fun _ R s => s.heap.get? l = some { cls := .type "dict", dict := dd, data := .dict es ep, slots := sl } ∧ R (.ok (.ret .notImplemented)) s) :=
  .of_wp fun prog w A R s h => by
    obtain ⟨hp, g, d, tk, os⟩ := s
    obtain ⟨hl, h⟩ := h
    have f1 := F.sub_dict_str
    wp_walk using AutoSeq1.wpAny_loadPart' hl
    exact ⟨_, rfl, h⟩
section
variable {prog : Program} {w : World} {A : Around} {E : Value → Shared → Prop} {s : Shared}
theorem ne_dict_str {l : Addr} {o : Obj} {es : Array DictEntry} {ep : Nat} {b : Str} {u : Tok} {Q : Value → Shared → Prop} (ho : s.heap.get? l = some o) (hc : o.cls = .type "dict") (hd : o.data = .dict es ep) (hu : A.units < cLine) (h : Q (.bool true) s) :
    wpAny (model prog w) A (compareOp .NotEq (.ref l) (.str b u)) Q E s := by
  have hT : s.TypeIs (.ref l) "dict" := ⟨o, ho, hc⟩
  obtain ⟨c, dd, dt, sl⟩ := o
  have hc2 : c = .type "dict" := hc
  have hd2 : dt = .dict es ep := hd
  subst hc2 hd2
  show wpAny _ A (richCompare .NotEq _ _) Q E s
  refine SeqAt.rc_ne_decline_or (k := false) hT (typeIs_str s b u) (by decide) F.sub_str_dict F.slot_dict_ne F.slot_str_ne_refl (fun Q' hq => ?_) (fun Q' hq => ?_) (fun Q' hq => ?_) (.inr hu) h
  · refine wpAny_call_entry F.slot_dict_ne hT F.entry_dict_ne ?_ (F.args_dict_ne_2 _ _)
    show wpAny _ _ (Builtin.Dict.dictSlotArgs "__ne__" ⟨[.ref l, .str b u], []⟩ >>= _) _ _ s
    refine wpAny_bind ?_
    unfold Builtin.Dict.dictSlotArgs
    refine wpAny_bind (wpAny_notOrdered_dict hT ?_)
    show wpAny _ _ (pure (Value.ref l, Value.str b u)) _ _ s
    refine wpAny_pure ?_
    refine wpAny_bind (wpAny_isInstance (T := "str") (typeIs_str s b u) F.sub_str_dict ?_)
    simp only [Bool.not_false, if_true]
    exact wpAny_bind (wpAny_rule (wpAny_pure ⟨_, rfl, hq⟩))
  · exact call_meets F.slot_str_ne_refl (typeIs_str s b u) F.entry_str_ne (F.args_str_ne_2 _ _) (str_ne_dict b u l es ep dd sl) ⟨ho, hq⟩
  · exact wpAny_pure hq
end
section
variable {X : Cx}
/-- x != text -/
def rNeS (K : PySem.W.Frag) : R2 := fun x y H Q => (rNe x y H Q) ∨ (rNeD K x y H Q) ∨ ∃ a kvs z, x = .ref a ∧ y = .str z ∧ H a = some (.dK kvs) ∧ Q (.bl true) H
theorem op_neS {K : PySem.W.Frag} (hu : X.A.units + 64 < cLine) (hK : X.K = K := by rfl) : OpR X (compareOp .NotEq) (rNeS K) := by
  subst hK
  intro pins s σ H x y v u Q I rx ry h
  rcases h with h | h | ⟨a, kvs, z, rfl, rfl, ha, q⟩
  · exact op_ne pins s σ H x y v u Q I rx ry h
  · exact op_neD hu pins s σ H x y v u Q I rx ry h
  · cases rx
    obtain ⟨t, rfl⟩ := ry
    obtain ⟨_, _, vs, _, dd⟩ := dk_of I.hok ha
    obtain ⟨o, es, ep, ho, hx, hd, _⟩ := dd
    exact ne_dict_str ho hx.1 hd (by omega) ⟨.bl true, H, I, rfl, q⟩
/-- o == v, the knowledge named -/
theorem own_eqBK {K : PySem.W.Frag} {CX : CXT} {k : Nat} {f C : Addr} {fd : FuncData} {ps : List Str} {sp : Sp} {E : XK} (F : FnOk X.prog X.w X.K X.mg X.base CX k f fd ps sp) (hr : Room k X.A) (hs : PySem.W.findIn X.K (.ref C) "__eq__" = some (some (.ref f)))
    (hf : PySem.W.isFn X.K (.ref f) = true) (hb : L2.Binds X.K fd ps []) (hx : Passes CX X E) (hK : X.K = K := by rfl) :
    OpR X (compareOp .Eq) (fun x y H Q => ∃ a dx fs, x = .ref a ∧ H a = some (.ins C dx fs) ∧ ((∃ b dy gs, y = .ref b ∧ H b = some (.ins C dy gs)) ∨ ∃ T, TyB K H y T) ∧ sp [x, y] H (fun v H' => ∃ b, v = .bl b ∧ Q (.bl b) H') E) := by
  subst hK
  exact own_eqB F hr hs hf hb hx
/-- xs != [], whatever xs holds -/
def rNeNil (K : PySem.W.Frag) : R2 := fun x y H Q => ∃ a b xs, x = .ref a ∧ y = .ref b ∧ SqL K H a xs ∧ SqL K H b [] ∧ Q (.bl (!xs.isEmpty)) H
theorem op_neNil {K : PySem.W.Frag} (hu : X.A.units + 64 < cLine) (hK : X.K = K := by rfl) : OpR X (compareOp .NotEq) (rNeNil K) := by
  subst hK
  intro pins s σ H x y v u Q I rx ry h
  obtain ⟨a, b, xs, rfl, rfl, ha, hb, q⟩ := h
  cases xs with
  | nil => exact op_neD hu pins s σ H _ _ v u Q I rx ry ⟨_, _, .lst ha .nil, .lst hb .nil, rfl, rfl, q⟩
  | cons z r =>
    cases rx
    cases ry
    obtain ⟨its, rv, pl, _⟩ := I.list ha
    obtain ⟨jts, rw', pl', _⟩ := I.list hb
    have e1 := rv.length
    have e2 := rw'.length
    refine SeqAt.RcNeAt.lists_lengths pl.isList pl'.isList ?_ (by omega) _ _ _ _ ⟨.bl true, H, I, rfl, q⟩
    simp only [List.length_cons, List.length_nil] at e1 e2
    rw [List.size_toArray, List.size_toArray, ← e1, ← e2]
    simp
end
end Sn

/-! ## Texts near to paths; rows put in order, each once -/
namespace Sn
open PySem PySem.Spec PyProof.Rows L2 TL
theorem no_dotN {z : Str} (h : isN z = true) : 46 ∉ tl z := fun q => dot_no (isN_sgn h _ q)
theorem isN_nil : isN "" = false := by decide +kernel
theorem isP_two {z a b : Str} (e : tl z = tl a ++ 46 :: tl b) (na : 46 ∉ tl a) (nb : 46 ∉ tl b) : isP z = (isN a && isN b) := by
  have es : Txt.split z dotS = [a, b] := by
    apply map_tl_inj
    rw [split_one e na, spl_last1 (s := 46) (S := []) (p := tl b) (acc := []) nb]; rfl
  unfold isP
  rw [show (Txt.split z ".") = [a, b] from es]
  simp
theorem isP_one {z : Str} (h : 46 ∉ tl z) : isP z = false := by
  unfold isP
  rw [show (Txt.split z ".") = [z] from split_no h]
  rfl
theorem tl_nil : tl ("" : Str) = [] := by decide +kernel
/-- what is near to a path of the name n, and is none -/
def odds (n : Str) : List Str := ["", n, n ++ ".", "." ++ n, n ++ ".as", "in." ++ n]
theorem odds_no {n : Str} (h : isN n = true) : ∀ z ∈ odds n, isP z = false := by
  have nn := no_dotN h
  intro z hz
  simp only [odds, List.mem_cons, List.not_mem_nil, or_false] at hz
  rcases hz with rfl | rfl | rfl | rfl | rfl | rfl
  · exact isP_one (by rw [tl_nil]; simp)
  · exact isP_one nn
  · rw [isP_two (a := n) (b := "") (by rw [tl_append, tl_nil, show tl ("." : Str) = [46] by decide +kernel]) nn (by rw [tl_nil]; simp), isN_nil, Bool.and_false]
  · rw [isP_two (a := "") (b := n) (by rw [tl_append, tl_nil, show tl ("." : Str) = [46] by decide +kernel]; rfl) (by rw [tl_nil]; simp) nn, isN_nil, Bool.false_and]
  · rw [isP_two (a := n) (b := "as") (by rw [tl_append, show tl (".as" : Str) = 46 :: tl ("as" : Str) by decide +kernel]) nn (by decide +kernel), show isN "as" = false by decide +kernel, Bool.and_false]
  · rw [isP_two (a := "in") (b := n) (by rw [tl_append, show tl ("in." : Str) = tl ("in" : Str) ++ [46] by decide +kernel, List.append_assoc]; rfl) (by decide +kernel) nn, show isN "in" = false by decide +kernel, Bool.false_and]
theorem odds_asc {n : Str} (h : isN n = true) : ∀ z ∈ odds n, Asc z ∧ z.length ≤ 1000 := by
  have hn := asc_name h
  have h8 := isN_len h
  have lt : ∀ x y : Str, (x ++ y).length = x.length + y.length := fun x y => by rw [len_tl, tl_append, List.length_append, ← len_tl, ← len_tl]
  intro z hz
  simp only [odds, List.mem_cons, List.not_mem_nil, or_false] at hz
  rcases hz with rfl | rfl | rfl | rfl | rfl | rfl
  · exact ⟨by unfold Asc; decide +kernel, by decide +kernel⟩
  · exact ⟨hn, by omega⟩
  · exact ⟨asc_app hn (by unfold Asc; decide +kernel), by rw [lt, show ("." : Str).length = 1 by decide +kernel]; omega⟩
  · exact ⟨asc_app (by unfold Asc; decide +kernel) hn, by rw [lt, show ("." : Str).length = 1 by decide +kernel]; omega⟩
  · exact ⟨asc_app hn (by unfold Asc; decide +kernel), by rw [lt, show (".as" : Str).length = 3 by decide +kernel]; omega⟩
  · exact ⟨asc_app (by unfold Asc; decide +kernel) hn, by rw [lt, show ("in." : Str).length = 3 by decide +kernel]; omega⟩
/-- a row in order -/
theorem srt_pair : ∀ l : List Str, sortedS l = true → l.Pairwise fun a b => ¬ ltS b a
  | [], _ => .nil
  | [_], _ => List.pairwise_singleton _ _
  | a :: b :: r, h => by
    have h1 : risingS a (b :: r) = true := h
    unfold risingS at h1
    simp only [Bool.and_eq_true, Bool.not_eq_true'] at h1
    have ih := srt_pair (b :: r) h1.2
    have nab : ¬ ltS b a := fun q => by unfold ltS at q; rw [q] at h1; cases h1.1
    refine List.pairwise_cons.mpr ⟨fun x hx => ?_, ih⟩
    rcases List.mem_cons.mp hx with rfl | hx
    · exact nab
    · have nbx := (List.pairwise_cons.mp ih).1 x hx
      intro q
      -- x < a; b is not below a, x is not below b
      unfold ltS at q nab nbx
      cases e : ltCps (tl a) (tl b) with
      | true => exact nbx (lt_trans q e)
      | false =>
        have : tl a = tl b := lt_tri e (by simpa using nab)
        rw [this] at q
        exact nbx q
/-- the next of a row in order, put behind what is there unless it is there -/
def put1 (l : List Str) (z : Str) : List Str := if z ∈ l then l else l ++ [z]
theorem put1_ris {ss l : List Str} {i : Nat} {z : Str} (so : ss.Pairwise fun a b => ¬ ltS b a) (hz : ss[i]? = some z) (r : Ris l) (m : ∀ y, y ∈ l ↔ y ∈ ss.take i) : Ris (put1 l z) ∧ ∀ y, y ∈ put1 l z ↔ y ∈ ss.take (i + 1) := by
  have et : ss.take (i + 1) = ss.take i ++ [z] := by rw [List.take_add_one, hz]; rfl
  unfold put1
  by_cases h : z ∈ l
  · rw [if_pos h]
    refine ⟨r, fun y => ?_⟩
    rw [et, List.mem_append, List.mem_singleton, ← m]
    exact ⟨.inl, fun q => q.elim id fun e => e ▸ h⟩
  · rw [if_neg h]
    refine ⟨List.pairwise_append.mpr ⟨r, List.pairwise_singleton _ _, fun y hy x hx => ?_⟩, fun y => ?_⟩
    · rw [List.mem_singleton.mp hx]
      have hy2 := (m y).mp hy
      have hi : i < ss.length := (List.getElem?_eq_some_iff.mp hz).1
      obtain ⟨j, hj, e⟩ := List.mem_iff_getElem.mp hy2
      rw [List.length_take] at hj
      rw [List.getElem_take] at e
      have ez : ss[i] = z := (List.getElem?_eq_some_iff.mp hz).2
      have q := List.pairwise_iff_getElem.mp so j i (by omega) hi (by omega)
      rw [e, ez] at q
      unfold ltS at q ⊢
      cases c : ltCps (tl y) (tl z) with
      | true => rfl
      | false => exact absurd (ext_tl (lt_tri c (by simpa using q))) fun e2 => h (e2 ▸ hy)
    · rw [et, List.mem_append, List.mem_append, m]
/-- five paths of the name n -/
def abcS : Str := "abcde"
def frs5 (n : Str) : List Str := (tl abcS).map fun c => n ++ "." ++ (⟨#[c]⟩ : Str)
theorem abc_ok : ∀ c ∈ tl abcS, isN (⟨#[c]⟩ : Str) = true := by decide +kernel
theorem abc_len : (tl abcS).length = 5 := by decide +kernel
theorem abc_nd : (tl abcS).Nodup := by decide +kernel
theorem frs_pth {n : Str} (h : isN n = true) : ∀ z ∈ frs5 n, Pth z := by
  intro z hz
  obtain ⟨c, hc, rfl⟩ := List.mem_map.mp hz
  exact pth_of h (abc_ok c hc)
theorem frs_nd (n : Str) : (frs5 n).Nodup := by
  refine List.Pairwise.map _ (fun a b ne q => ne ?_) abc_nd
  have e := congrArg tl q
  rw [tl_append, tl_append, tl_append (x := n ++ "."), tl_append] at e
  have e2 := List.append_cancel_left e
  injection e2
theorem frs_new {n : Str} {l : List Str} (hl : l.length ≤ 4) : (frs5 n).filter (fun y => !decide (y ∈ l)) ≠ [] := by
  intro e
  have h : ∀ y ∈ frs5 n, y ∈ l := fun y hy => by
    have q := List.filter_eq_nil_iff.mp e y hy
    simpa using q
  have q := nodup_len _ l (frs_nd n) h
  unfold frs5 at q
  rw [List.length_map, abc_len] at q
  omega
end Sn

/-! ## A set of paths on the heap; filters of rows -/
namespace Sn
open PySem PySem.Spec PyProof.Rows L2 TL
theorem takes1 {α : Type} {l : List α} {i : Nat} {x : α} (h : l[i]? = some x) : l.take (i + 1) = l.take i ++ [x] := by
  rw [List.take_add_one, h]; rfl
/-- a set of paths stands at a: its paths are ys -/
structure Nm (C : Addr) (H : Hp) (a : Addr) (ys : List Str) : Prop where
  at_ : ∃ dx t, H a = some (.ins C dx [("paths", .ref t)]) ∧ H t = some (.tup (ys.map V.str))
  ris : Ris ys
  pth : ∀ z ∈ ys, Pth z
theorem Nm.same {C : Addr} {H H' : Hp} {a : Addr} {ys : List Str} (h : Nm C H a ys) (s : Same H H') : Nm C H' a ys := by
  obtain ⟨⟨dx, t, h1, h2⟩, r, p⟩ := h
  exact ⟨⟨dx, t, s _ _ h1, s _ _ h2⟩, r, p⟩
theorem Nm.asc {C : Addr} {H : Hp} {a : Addr} {ys : List Str} (h : Nm C H a ys) : ∀ z ∈ ys, Asc z := fun z hz => (h.pth z hz).a
theorem fl_take {l : List Str} {i : Nat} {z : Str} (p : Str → Bool) (h : l[i]? = some z) : (l.take (i + 1)).filter p = (l.take i).filter p ++ if p z = true then [z] else [] := by
  rw [takes1 h, List.filter_append]
  congr 1
  by_cases e : p z = true
  · rw [if_pos e, List.filter_cons_of_pos e]; rfl
  · rw [if_neg e, List.filter_cons_of_neg e]; rfl
theorem fl_len {l : List Str} (i : Nat) (p : Str → Bool) : ((l.take i).filter p).length ≤ l.length :=
  Nat.le_trans (List.length_filter_le _ _) (by rw [List.length_take]; omega)
end Sn

namespace Sn
open PySem PySem.Spec PyProof.Rows L2
def top (i : Nat) : Stmt := PySem.Challenge.pw_sparenames_k03_sets_of_paths.main.body.getD i (.Pass ⟨0, 0, 0, 0⟩)
abbrev s_wall : Stmt := top 0
abbrev s_BadPath_init : Stmt := inClass (top 3) 0
abbrev s_is_word : Stmt := top 9
abbrev s_is_name : Stmt := top 10
abbrev s_is_path : Stmt := top 11
abbrev s_Names_init : Stmt := inClass (top 12) 0
abbrev s_Names_iter : Stmt := inClass (top 12) 1
abbrev s_Names_len : Stmt := inClass (top 12) 2
abbrev s_Names_bool : Stmt := inClass (top 12) 3
abbrev s_Names_contains : Stmt := inClass (top 12) 4
abbrev s_Names_eq : Stmt := inClass (top 12) 5
abbrev s_Names_or : Stmt := inClass (top 12) 6
abbrev s_Names_and : Stmt := inClass (top 12) 7
abbrev s_Names_sub : Stmt := inClass (top 12) 8
abbrev s_Names_within : Stmt := inClass (top 12) 9
abbrev s_Names_gathered : Stmt := inClass (top 12) 10
abbrev s_law_begun : Stmt := top 14
abbrev s_law_mixed : Stmt := top 15
abbrev s_law_take : Stmt := top 16
abbrev s_law_pick : Stmt := top 17
abbrev s_law_reserved : Stmt := top 18
abbrev s_law_any_word : Stmt := top 19
abbrev s_law_any_name : Stmt := top 20
abbrev s_law_names : Stmt := top 21
abbrev s_law_path : Stmt := top 22
abbrev s_law_set : Stmt := top 23
abbrev s_law_refused : Stmt := top 24
abbrev s_law_right : Stmt := top 25
abbrev s_law : Stmt := top 26
abbrev n_wall : List Str := ["k"]
theorem sc_wall : FnScope n_wall ["k"] (defScope s_wall) := ⟨rfl, rfl, rfl, by decide +kernel, rfl, by decide +kernel, by decide +kernel⟩
abbrev n_is_word : List Str := ["value", "sign"]
theorem sc_is_word : FnScope n_is_word ["value"] (defScope s_is_word) := ⟨rfl, rfl, rfl, by decide +kernel, rfl, by decide +kernel, by decide +kernel⟩
abbrev n_is_name : List Str := ["value"]
theorem sc_is_name : FnScope n_is_name ["value"] (defScope s_is_name) := ⟨rfl, rfl, rfl, by decide +kernel, rfl, by decide +kernel, by decide +kernel⟩
abbrev n_is_path : List Str := ["value", "parts", "part"]
theorem sc_is_path : FnScope n_is_path ["value"] (defScope s_is_path) := ⟨rfl, rfl, rfl, by decide +kernel, rfl, by decide +kernel, by decide +kernel⟩
abbrev n_Names_init : List Str := ["self", "paths", "at", "path"]
theorem sc_Names_init : FnScope n_Names_init ["self", "paths"] (defScope s_Names_init) := ⟨rfl, rfl, rfl, by decide +kernel, rfl, by decide +kernel, by decide +kernel⟩
abbrev n_Names_iter : List Str := ["self"]
theorem sc_Names_iter : FnScope n_Names_iter ["self"] (defScope s_Names_iter) := ⟨rfl, rfl, rfl, by decide +kernel, rfl, by decide +kernel, by decide +kernel⟩
abbrev n_Names_len : List Str := ["self"]
theorem sc_Names_len : FnScope n_Names_len ["self"] (defScope s_Names_len) := ⟨rfl, rfl, rfl, by decide +kernel, rfl, by decide +kernel, by decide +kernel⟩
abbrev n_Names_bool : List Str := ["self"]
theorem sc_Names_bool : FnScope n_Names_bool ["self"] (defScope s_Names_bool) := ⟨rfl, rfl, rfl, by decide +kernel, rfl, by decide +kernel, by decide +kernel⟩
abbrev n_Names_contains : List Str := ["self", "value"]
theorem sc_Names_contains : FnScope n_Names_contains ["self", "value"] (defScope s_Names_contains) := ⟨rfl, rfl, rfl, by decide +kernel, rfl, by decide +kernel, by decide +kernel⟩
abbrev n_Names_eq : List Str := ["self", "other"]
theorem sc_Names_eq : FnScope n_Names_eq ["self", "other"] (defScope s_Names_eq) := ⟨rfl, rfl, rfl, by decide +kernel, rfl, by decide +kernel, by decide +kernel⟩
abbrev n_Names_or : List Str := ["self", "other", "paths"]
theorem sc_Names_or : FnScope n_Names_or ["self", "other"] (defScope s_Names_or) := ⟨rfl, rfl, rfl, by decide +kernel, rfl, by decide +kernel, by decide +kernel⟩
abbrev n_Names_and : List Str := ["self", "other", "paths", "path"]
theorem sc_Names_and : FnScope n_Names_and ["self", "other"] (defScope s_Names_and) := ⟨rfl, rfl, rfl, by decide +kernel, rfl, by decide +kernel, by decide +kernel⟩
abbrev n_Names_sub : List Str := ["self", "other", "paths", "path"]
theorem sc_Names_sub : FnScope n_Names_sub ["self", "other"] (defScope s_Names_sub) := ⟨rfl, rfl, rfl, by decide +kernel, rfl, by decide +kernel, by decide +kernel⟩
abbrev n_Names_within : List Str := ["self", "other"]
theorem sc_Names_within : FnScope n_Names_within ["self", "other"] (defScope s_Names_within) := ⟨rfl, rfl, rfl, by decide +kernel, rfl, by decide +kernel, by decide +kernel⟩
abbrev n_Names_gathered : List Str := ["cls", "several"]
theorem sc_Names_gathered : FnScope n_Names_gathered ["cls", "several"] (defScope s_Names_gathered) := ⟨rfl, rfl, rfl, by decide +kernel, rfl, by decide +kernel, by decide +kernel⟩
abbrev n_law_begun : List Str := ["_law_script", "_law_great", "_law_cell"]
theorem sc_law_begun : FnScope n_law_begun ["_law_script"] (defScope s_law_begun) := ⟨rfl, rfl, rfl, by decide +kernel, rfl, by decide +kernel, by decide +kernel⟩
abbrev n_law_mixed : List Str := ["_law_state", "_law_found", "_law_prime", "_law_blend", "_law_cell"]
theorem sc_law_mixed : FnScope n_law_mixed ["_law_state"] (defScope s_law_mixed) := ⟨rfl, rfl, rfl, by decide +kernel, rfl, by decide +kernel, by decide +kernel⟩
abbrev n_law_take : List Str := ["_law_state", "_law_size", "_law_found"]
theorem sc_law_take : FnScope n_law_take ["_law_state", "_law_size"] (defScope s_law_take) := ⟨rfl, rfl, rfl, by decide +kernel, rfl, by decide +kernel, by decide +kernel⟩
abbrev n_law_pick : List Str := ["_law_state", "_law_some"]
theorem sc_law_pick : FnScope n_law_pick ["_law_state", "_law_some"] (defScope s_law_pick) := ⟨rfl, rfl, rfl, by decide +kernel, rfl, by decide +kernel, by decide +kernel⟩
abbrev n_law_reserved : List Str := ["_law_words"]
theorem sc_law_reserved : FnScope n_law_reserved [] (defScope s_law_reserved) := ⟨rfl, rfl, rfl, by decide +kernel, rfl, by decide +kernel, by decide +kernel⟩
abbrev n_law_any_word : List Str := ["_law_state", "_law_least", "_law_most", "_law_signs", "_law_turn"]
theorem sc_law_any_word : FnScope n_law_any_word ["_law_state", "_law_least", "_law_most"] (defScope s_law_any_word) := ⟨rfl, rfl, rfl, by decide +kernel, rfl, by decide +kernel, by decide +kernel⟩
abbrev n_law_any_name : List Str := ["_law_state", "_law_near", "_law_word"]
theorem sc_law_any_name : FnScope n_law_any_name ["_law_state"] (defScope s_law_any_name) := ⟨rfl, rfl, rfl, by decide +kernel, rfl, by decide +kernel, by decide +kernel⟩
abbrev n_law_names : List Str := ["_law_state", "_law_many", "_law_found", "_law_turn", "_law_word", "_law_some", "_law_k", "_law_here"]
theorem sc_law_names : FnScope n_law_names ["_law_state", "_law_many"] (defScope s_law_names) := ⟨rfl, rfl, rfl, by decide +kernel, rfl, by decide +kernel, by decide +kernel⟩
abbrev n_law_path : List Str := ["_law_state", "_law_names_here"]
theorem sc_law_path : FnScope n_law_path ["_law_state", "_law_names_here"] (defScope s_law_path) := ⟨rfl, rfl, rfl, by decide +kernel, rfl, by decide +kernel, by decide +kernel⟩
abbrev n_law_set : List Str := ["_law_some"]
theorem sc_law_set : FnScope n_law_set ["_law_some"] (defScope s_law_set) := ⟨rfl, rfl, rfl, by decide +kernel, rfl, by decide +kernel, by decide +kernel⟩
abbrev n_law_refused : List Str := ["_law_some", "_law_caught", "e"]
theorem sc_law_refused : FnScope n_law_refused ["_law_some"] (defScope s_law_refused) := ⟨rfl, rfl, rfl, by decide +kernel, rfl, by decide +kernel, by decide +kernel⟩
abbrev n_law_right : List Str := ["_law_made", "_law_due", "_law_others", "_law_value"]
theorem sc_law_right : FnScope n_law_right ["_law_made", "_law_due", "_law_others"] (defScope s_law_right) := ⟨rfl, rfl, rfl, by decide +kernel, rfl, by decide +kernel, by decide +kernel⟩
abbrev n_law : List Str := ["_law_script", "_law_state", "_law_turn", "_law_names_here", "_law_k", "_law_some", "_law_odd", "_law_wrong", "_law_bad", "_law_made", "_law_due", "_law_path_here", "_law_others", "_law_fresh", "_law_less", "_law_word", "_law_value"]
theorem sc_law : FnScope n_law ["_law_script"] (defScope s_law) := ⟨rfl, rfl, rfl, by decide +kernel, rfl, by decide +kernel, by decide +kernel⟩
def mainFile : Str := PySem.Challenge.pw_sparenames_k03_sets_of_paths.main.file
/-- what an error's super() asks of the program -/
def PrOk (P : Program) : Prop := P.main.file = mainFile ∧ (P.main.scope.names.lookup ("super" : Str)).isSome = false
theorem tx_BadPath : Txt1 s_BadPath_init "k" := ⟨⟨rfl, rfl, rfl, by decide +kernel, ⟨_, rfl, rfl⟩, rfl, rfl, rfl⟩, rfl, by decide +kernel, by decide +kernel, ⟨_, _, _, _, _, _, _, _, _, _, _, _, rfl, fun _ => rfl⟩⟩
/-- what the top has left: the defs, the constants, the names that are still built in -/
structure Txt (K : PySem.W.Frag) (mg : Str → Option Value) where
  f_wall : Addr
  fd_wall : FuncData
  F_wall : Fun K "_wall" "_wall" s_wall f_wall fd_wall
  g_wall : mg "_wall" = some (.ref f_wall)
  b_wall : Binds K fd_wall ["k"] []
  f_is_word : Addr
  fd_is_word : FuncData
  F_is_word : Fun K "is_word" "is_word" s_is_word f_is_word fd_is_word
  g_is_word : mg "is_word" = some (.ref f_is_word)
  b_is_word : Binds K fd_is_word ["value"] []
  f_is_name : Addr
  fd_is_name : FuncData
  F_is_name : Fun K "is_name" "is_name" s_is_name f_is_name fd_is_name
  g_is_name : mg "is_name" = some (.ref f_is_name)
  b_is_name : Binds K fd_is_name ["value"] []
  f_is_path : Addr
  fd_is_path : FuncData
  F_is_path : Fun K "is_path" "is_path" s_is_path f_is_path fd_is_path
  g_is_path : mg "is_path" = some (.ref f_is_path)
  b_is_path : Binds K fd_is_path ["value"] []
  f_law_begun : Addr
  fd_law_begun : FuncData
  F_law_begun : Fun K "_law_begun" "_law_begun" s_law_begun f_law_begun fd_law_begun
  g_law_begun : mg "_law_begun" = some (.ref f_law_begun)
  b_law_begun : Binds K fd_law_begun ["_law_script"] []
  f_law_mixed : Addr
  fd_law_mixed : FuncData
  F_law_mixed : Fun K "_law_mixed" "_law_mixed" s_law_mixed f_law_mixed fd_law_mixed
  g_law_mixed : mg "_law_mixed" = some (.ref f_law_mixed)
  b_law_mixed : Binds K fd_law_mixed ["_law_state"] []
  f_law_take : Addr
  fd_law_take : FuncData
  F_law_take : Fun K "_law_take" "_law_take" s_law_take f_law_take fd_law_take
  g_law_take : mg "_law_take" = some (.ref f_law_take)
  b_law_take : Binds K fd_law_take ["_law_state", "_law_size"] []
  f_law_pick : Addr
  fd_law_pick : FuncData
  F_law_pick : Fun K "_law_pick" "_law_pick" s_law_pick f_law_pick fd_law_pick
  g_law_pick : mg "_law_pick" = some (.ref f_law_pick)
  b_law_pick : Binds K fd_law_pick ["_law_state", "_law_some"] []
  f_law_reserved : Addr
  fd_law_reserved : FuncData
  F_law_reserved : Fun K "_law_reserved" "_law_reserved" s_law_reserved f_law_reserved fd_law_reserved
  g_law_reserved : mg "_law_reserved" = some (.ref f_law_reserved)
  b_law_reserved : Binds K fd_law_reserved [] []
  f_law_any_word : Addr
  fd_law_any_word : FuncData
  F_law_any_word : Fun K "_law_any_word" "_law_any_word" s_law_any_word f_law_any_word fd_law_any_word
  g_law_any_word : mg "_law_any_word" = some (.ref f_law_any_word)
  b_law_any_word : Binds K fd_law_any_word ["_law_state", "_law_least", "_law_most"] []
  f_law_any_name : Addr
  fd_law_any_name : FuncData
  F_law_any_name : Fun K "_law_any_name" "_law_any_name" s_law_any_name f_law_any_name fd_law_any_name
  g_law_any_name : mg "_law_any_name" = some (.ref f_law_any_name)
  b_law_any_name : Binds K fd_law_any_name ["_law_state"] []
  f_law_names : Addr
  fd_law_names : FuncData
  F_law_names : Fun K "_law_names" "_law_names" s_law_names f_law_names fd_law_names
  g_law_names : mg "_law_names" = some (.ref f_law_names)
  b_law_names : Binds K fd_law_names ["_law_state", "_law_many"] []
  f_law_path : Addr
  fd_law_path : FuncData
  F_law_path : Fun K "_law_path" "_law_path" s_law_path f_law_path fd_law_path
  g_law_path : mg "_law_path" = some (.ref f_law_path)
  b_law_path : Binds K fd_law_path ["_law_state", "_law_names_here"] []
  f_law_set : Addr
  fd_law_set : FuncData
  F_law_set : Fun K "_law_set" "_law_set" s_law_set f_law_set fd_law_set
  g_law_set : mg "_law_set" = some (.ref f_law_set)
  b_law_set : Binds K fd_law_set ["_law_some"] []
  f_law_refused : Addr
  fd_law_refused : FuncData
  F_law_refused : Fun K "_law_refused" "_law_refused" s_law_refused f_law_refused fd_law_refused
  g_law_refused : mg "_law_refused" = some (.ref f_law_refused)
  b_law_refused : Binds K fd_law_refused ["_law_some"] []
  f_law_right : Addr
  fd_law_right : FuncData
  F_law_right : Fun K "_law_right" "_law_right" s_law_right f_law_right fd_law_right
  g_law_right : mg "_law_right" = some (.ref f_law_right)
  b_law_right : Binds K fd_law_right ["_law_made", "_law_due", "_law_others"] []
  f_law : Addr
  fd_law : FuncData
  F_law : Fun K "law" "law" s_law f_law fd_law
  g_law : mg "law" = some (.ref f_law)
  b_law : Binds K fd_law ["_law_script"] []
  c_LETTERS : ∃ t, mg "LETTERS" = some (.str "abcdefghijklmnopqrstuvwxyz" t)
  c_SIGNS : ∃ t, mg "SIGNS" = some (.str "abcdefghijklmnopqrstuvwxyz0123456789_" t)
  c_MOST_SIGNS : ∃ t, mg "MOST_SIGNS" = some (.int 8 t)
  a_RESERVED : Addr
  c_RESERVED : mg "RESERVED" = some (.ref a_RESERVED)
  q_RESERVED : ∀ H, SqT K H a_RESERVED [V.str "as", V.str "ask", V.str "call", V.str "def", V.str "each", V.str "else", V.str "entry", V.str "except", V.str "fail", V.str "if", V.str "in", V.str "let", V.str "offer", V.str "return", V.str "set", V.str "table", V.str "there", V.str "try", V.str "use"]
  z_super : mg "super" = none
  z_isinstance : mg "isinstance" = none
  z_str : mg "str" = none
  z_all : mg "all" = none
  z_len : mg "len" = none
  z_tuple : mg "tuple" = none
  z_enumerate : mg "enumerate" = none
  z_sorted : mg "sorted" = none
  z_list : mg "list" = none
  z_iter : mg "iter" = none
  z_NotImplemented : mg "NotImplemented" = none
  z_classmethod : mg "classmethod" = none
  z_int : mg "int" = none
  z_range : mg "range" = none
  z_repr : mg "repr" = none
  z_bool : mg "bool" = none
  z_min : mg "min" = none
  C_Names : Addr
  gC_Names : mg "Names" = some (.ref C_Names)
  cl_Names : Cls K C_Names
  sf_Names : PySem.W.selfFirst K C_Names = true
  ih_Names : PySem.W.findIn K (.ref C_Names) "__class__" = some (some (.builtin "object.__class__"))
  in_Names : PySem.W.specialIn K (.builtin "object.__class__") "__get__" = some (some (.builtin "getset_descriptor.__get__"))
  it_Names : PySem.W.takesIn K (.builtin "object.__class__") = some true
  im_Names : PySem.W.mroIn K C_Names (.type "object") = some true
  ne_Names : PySem.W.findIn K (.ref C_Names) "__ne__" = some (some (.builtin "object.__ne__"))
  ty_Names : PySem.W.typeIn K (.ref C_Names) = some (.type "type")
  at_Names_paths : NoAttr K C_Names "paths"
  f_Names_init : Addr
  fd_Names_init : FuncData
  F_Names_init : Fun K "__init__" "Names.__init__" s_Names_init f_Names_init fd_Names_init
  m_Names_init : Meth K C_Names "__init__" f_Names_init
  mk_Names : Mk K C_Names f_Names_init
  f_Names_len : Addr
  fd_Names_len : FuncData
  F_Names_len : Fun K "__len__" "Names.__len__" s_Names_len f_Names_len fd_Names_len
  m_Names_len : Meth K C_Names "__len__" f_Names_len
  b_Names_len : Binds K fd_Names_len ["self"] []
  f_Names_bool : Addr
  fd_Names_bool : FuncData
  F_Names_bool : Fun K "__bool__" "Names.__bool__" s_Names_bool f_Names_bool fd_Names_bool
  m_Names_bool : Meth K C_Names "__bool__" f_Names_bool
  b_Names_bool : Binds K fd_Names_bool ["self"] []
  f_Names_contains : Addr
  fd_Names_contains : FuncData
  F_Names_contains : Fun K "__contains__" "Names.__contains__" s_Names_contains f_Names_contains fd_Names_contains
  m_Names_contains : Meth K C_Names "__contains__" f_Names_contains
  b_Names_contains : Binds K fd_Names_contains ["self", "value"] []
  f_Names_eq : Addr
  fd_Names_eq : FuncData
  F_Names_eq : Fun K "__eq__" "Names.__eq__" s_Names_eq f_Names_eq fd_Names_eq
  m_Names_eq : Meth K C_Names "__eq__" f_Names_eq
  b_Names_eq : Binds K fd_Names_eq ["self", "other"] []
  C_SpareError : Addr
  gC_SpareError : mg "SpareError" = some (.ref C_SpareError)
  x_SpareError : ExcC K C_SpareError
  xf_SpareError : XfC K C_SpareError
  kC_SpareError : PySem.W.keepIn K (.ref C_SpareError) = true
  ty_SpareError : PySem.W.typeIn K (.ref C_SpareError) = some (.type "type")
  m_SpareError : PySem.W.exmOne K (.ref C_SpareError) (.ref C_SpareError) = some true
  C_BadPath : Addr
  gC_BadPath : mg "BadPath" = some (.ref C_BadPath)
  x_BadPath : ExcC K C_BadPath
  xf_BadPath : XfC K C_BadPath
  kC_BadPath : PySem.W.keepIn K (.ref C_BadPath) = true
  ty_BadPath : PySem.W.typeIn K (.ref C_BadPath) = some (.type "type")
  m_BadPath : PySem.W.exmOne K (.ref C_BadPath) (.ref C_SpareError) = some true
  fI_BadPath : Addr
  e_BadPath : ∀ P : Program, PrOk P → Err1 P K mg "BadPath" C_BadPath fI_BadPath s_BadPath_init "BadPath.__init__" "k"
  no_BadPath_k : PySem.W.findIn K (.ref C_BadPath) "k" = some none
end Sn

/-! ## The drawing state of the laws: _law_begun, _law_mixed, _law_take, _law_pick. What is drawn is not told, only its bounds -/
namespace Sn
open PySem PySem.Spec PyProof.Rows L2

/-- the state's dict -/
def drK (g c : Addr) (l t : Int) : List (Key × V) :=
  [(Sum.inr "great", .ref g), (Sum.inr "cells", .ref c), (Sum.inr "left", .int l), (Sum.inr "turn", .int t)]
/-- the drawing state stands at d, its two lists at g and c; at most m numbers were mixed so far -/
structure Dr (H : Hp) (d g c : Addr) (m : Nat) : Prop where
  di : ∃ l t : Int, 0 ≤ t ∧ t ≤ m ∧ H d = some (.dK (drK g c l t))
  gr : ∃ ns : List Int, H g = some (.lst (ns.map V.int))
  ce : ∃ ns : List Int, H c = some (.lst (ns.map V.int))
  gc : g ≠ c
theorem Dr.mono {H : Hp} {d g c : Addr} {m n : Nat} (D : Dr H d g c m) (h : m ≤ n) : Dr H d g c n := by
  obtain ⟨l, t, h0, h1, h2⟩ := D.di
  exact ⟨⟨l, t, h0, by omega, h2⟩, D.gr, D.ce, D.gc⟩
theorem Dr.dg {H : Hp} {d g c : Addr} {m : Nat} (D : Dr H d g c m) : d ≠ g := by
  obtain ⟨l, t, _, _, h2⟩ := D.di
  obtain ⟨ns, h3⟩ := D.gr
  exact ne_of h2 h3 (by intro z; cases z)
theorem Dr.dc {H : Hp} {d g c : Addr} {m : Nat} (D : Dr H d g c m) : d ≠ c := by
  obtain ⟨l, t, _, _, h2⟩ := D.di
  obtain ⟨ns, h3⟩ := D.ce
  exact ne_of h2 h3 (by intro z; cases z)
/-- all that was tracked stands, but the state's dict and its first list -/
def Mv (d g : Addr) (H H' : Hp) : Prop := ∀ b o, b ≠ d → b ≠ g → H b = some o → H' b = some o
theorem Mv.refl (d g : Addr) (H : Hp) : Mv d g H H := fun _ _ _ _ e => e
theorem Mv.trans {d g : Addr} {H H1 H2 : Hp} (a : Mv d g H H1) (b : Mv d g H1 H2) : Mv d g H H2 :=
  fun x o h1 h2 e => b x o h1 h2 (a x o h1 h2 e)
theorem Mv.same {d g : Addr} {H H1 : Hp} (a : Same H H1) : Mv d g H H1 := fun x o _ _ e => a x o e
theorem Mv.upd {d g : Addr} {H : Hp} {o : HO} : Mv d g H (upd H d o) := fun b x h1 _ e => by rw [upd_ne h1]; exact e
theorem same_new {H : Hp} {p : Addr} {o : HO} (h : H p = none) : Same H (upd H p o) := fun b x e => by
  rw [upd_ne (ne_of_none e h)]
  exact e
/-- the state stays where all that is tracked stays -/
theorem Dr.same {H H' : Hp} {d g c : Addr} {m : Nat} (D : Dr H d g c m) (s : Same H H') : Dr H' d g c m := by
  obtain ⟨⟨l, t, h0, h1, h2⟩, ⟨a, h3⟩, ⟨b, h4⟩, h5⟩ := D
  exact ⟨⟨l, t, h0, h1, s _ _ h2⟩, ⟨a, s _ _ h3⟩, ⟨b, s _ _ h4⟩, h5⟩
theorem get_great (g c : Addr) (l t : Int) : valV (drK g c l t) (Sum.inr "great" : Key) = some (.ref g) := by kernel_rfl
theorem get_cells (g c : Addr) (l t : Int) : valV (drK g c l t) (Sum.inr "cells" : Key) = some (.ref c) := by kernel_rfl
theorem get_left (g c : Addr) (l t : Int) : valV (drK g c l t) (Sum.inr "left" : Key) = some (.int l) := by kernel_rfl
theorem get_turn (g c : Addr) (l t : Int) : valV (drK g c l t) (Sum.inr "turn" : Key) = some (.int t) := by kernel_rfl
theorem put_left (g c : Addr) (l t x : Int) : putK (drK g c l t) (Sum.inr "left" : Key) (.int x) = drK g c x t := by kernel_rfl
theorem put_turn (g c : Addr) (l t x : Int) : putK (drK g c l t) (Sum.inr "turn" : Key) (.int x) = drK g c l x := by kernel_rfl
theorem dget_of {H : Hp} {d : Addr} {kvs : List (Key × V)} {x : Str} {v : V} (h : H d = some (.dK kvs)) (e : valV kvs (Sum.inr x : Key) = some v) :
    DGet H d (.str x) (some v) := .inl ⟨kvs, Sum.inr x, .inl h, rfl, e.symm⟩
theorem dput_of {H : Hp} {d : Addr} {kvs kvs' : List (Key × V)} {x : Str} {v : V} (h : H d = some (.dK kvs)) (hl : kvs.length ≤ 1000) (e : putK kvs (Sum.inr x : Key) v = kvs') :
    DPut H d (.str x) v (upd H d (.dK kvs')) := .inl ⟨kvs, Sum.inr x, h, rfl, small1000 hl, by rw [e]⟩

theorem dp_ints {K : PySem.W.Frag} {H : Hp} : ∀ ns : List Int, DpAll K H (ns.map V.int) (ns.map PyData.int)
  | [] => .nil
  | n :: r => .cons (.int n) (dp_ints r)
theorem ix0 (x : Int) (r : List Int) : seqIndex? 0 ((x :: r).map V.int).length = some 0 := by
  rw [List.map_cons, List.length_cons]
  simp [seqIndex?]
theorem small4 (g c : Addr) (l t : Int) : (drK g c l t).length ≤ 1000 := by show 4 ≤ 1000; decide
def primes : List Int := [2147483629, 2147483587, 2147483579, 2147483563, 2147483549, 2147483543]
theorem primes_lo : ∀ q ∈ primes, 2147483543 ≤ q := by decide
theorem primes_hi : ∀ q ∈ primes, q ≤ 2147483629 := by decide
section
variable {P : Program} {w : World} {K : PySem.W.Frag} {mg : Str → Option Value} {base : Heap}
/-- _law_mixed: some number; one more was mixed -/
def spMixed : Sp := fun vs H Q _ => ∃ (d g c : Addr) (m : Nat), vs = [.ref d] ∧ Dr H d g c m ∧ m ≤ 1000000000 ∧
  ∀ (r : Int) (H' : Hp), Dr H' d g c (m + 1) → H' g = H g → Mv d g H H' → Q (.int r) H'
theorem ok_mixed (T : Txt K mg) : FnOk P w K mg base CX0 1 T.f_law_mixed T.fd_law_mixed ["_law_state"] spMixed := by
  refine T.F_law_mixed.ok sc_law_mixed (fun vs H Q E h => ?_) (fun cdv A outer s H vs Q E hr h => ?_)
  · obtain ⟨d, g, c, m, rfl, _⟩ := h
    rfl
  · obtain ⟨d, g, c, m, rfl, D, hm, k⟩ := h
    have hu := hu_of hr
    refine ⟨_, pss_cons (ps_dput hu (pv 0) pe_str (pe_op op_add (pe_dget hu (pv 0) pe_str (fun _ _ => rfl)) pe_int) rfl)
      (pss_cons (ps_set (i := 1) sc_law_mixed.nd rfl (Or.inl rfl) pe_int)
      (pss_cons (ps_for PassesOwn.never rfl (pi_list (pe_lst (pa_cons pe_int (pa_cons pe_int (pa_cons pe_int (pa_cons pe_int (pa_cons pe_int (pa_cons pe_int pa_nil)))))))) (pg_name (i := 2) sc_law_mixed.nd rfl (Or.inl rfl))
        (pss_cons (ps_set (i := 3) sc_law_mixed.nd rfl (Or.inl rfl) (pe_op op_add (pe_op op_mul pe_int (pe_dget hu (pv 0) pe_str (fun _ _ => rfl))) (pe_op op_fdivN (pv 2) pe_int)))
        (pss_cons (ps_for PassesOwn.never rfl (pi_list (pe_dget hu (pv 0) pe_str (fun _ _ => rfl))) (pg_name (i := 4) sc_law_mixed.nd rfl (Or.inl rfl))
          (pss_one (ps_set (i := 3) sc_law_mixed.nd rfl (Or.inl rfl) (pe_op op_modN (pe_callTy call_int1 (by rfl) T.z_int (by decide +kernel) (pa_cons (pe_op op_add (pe_op op_mul (pv 3) pe_int) (pv 4)) pa_nil)) (pv 2)))))
        (pss_one (ps_set (i := 1) sc_law_mixed.nd rfl (Or.inl rfl) (pe_op op_add (pe_op op_mul (pv 1) pe_int) (pe_op op_modN (pe_callTy call_int1 (by rfl) T.z_int (by decide +kernel) (pa_cons (pe_op op_pow (pv 3) pe_int) pa_nil)) (pv 2))))))))
      (pss_one (ps_ret (pv 1))))), ?_⟩
    obtain ⟨⟨l, t, h0, h1, hd⟩, ⟨gs, hg⟩, ⟨cs, hc⟩, hgc⟩ := id D
    refine ⟨_, rfl, d, _, rfl, dget_of hd (get_turn g c l t), _, _, rfl, rfl, _, rfl, d, _, rfl, dput_of hd (small4 g c l t) (put_turn g c l t _), ?_⟩
    refine ⟨(by show 6 ≤ sizeLine; decide), fun p hp => ?_⟩
    have npd : p ≠ d := fun e => by rw [e, upd_same] at hp; cases hp
    have hp0 : H p = none := by rw [upd_ne npd] at hp; exact hp
    have ncd : c ≠ d := fun e => by rw [e, hd] at hc; cases hc
    have ngd : g ≠ d := fun e => by rw [e, hd] at hg; cases hg
    generalize eH2 : upd (upd H d (.dK (drK g c l (t + 1)))) p (.lst [.int 2147483629, .int 2147483587, .int 2147483579, .int 2147483563, .int 2147483549, .int 2147483543]) = H2
    have fd : H2 d = some (.dK (drK g c l (t + 1))) := by rw [← eH2, upd_ne npd.symm, upd_same]
    have fc : H2 c = some (.lst (cs.map V.int)) := by rw [← eH2, upd_ne (ne_of_none hc hp0), upd_ne ncd]; exact hc
    have fg : H2 g = some (.lst (gs.map V.int)) := by rw [← eH2, upd_ne (ne_of_none hg hp0), upd_ne ngd]; exact hg
    have fp : H2 p = some (.lst (primes.map V.int)) := by rw [← eH2, upd_same]; rfl
    refine ⟨p, rfl, ⟨_, .inl (.inl fp)⟩, for_list (K := K) (a := p) (xs := primes.map V.int)
      (fun i σ H3 => ∃ (v2 v3 v4 : Option V) (f : Int), H2 = H3 ∧ σ = [some (.ref d), some (.int f), v2, v3, v4]) ⟨none, none, none, 0, rfl, rfl⟩ (fun i σ H3 _ ⟨_, _, _, _, e, _⟩ => by rw [← e]; exact .inl (.inl fp)) ?_ ?_⟩
    · rintro i y σ H3 hi ⟨v2, v3, v4, f, rfl, rfl⟩
      obtain ⟨q, rfl, q1, q2⟩ : ∃ q : Int, y = .int q ∧ 2147483543 ≤ q ∧ q ≤ 2147483629 := by
        have hm : y ∈ primes.map V.int := List.mem_of_getElem? hi
        obtain ⟨q, hq, rfl⟩ := List.mem_map.mp hm
        exact ⟨q, rfl, primes_lo q hq, primes_hi q hq⟩
      -- blend = 69997 * turn + prime // 11
      refine ⟨_, rfl, d, _, rfl, dget_of fd (get_turn g c l (t + 1)), _, _, rfl, rfl, .inl ⟨by decide, by decide⟩, _, rfl, _, _, rfl, rfl, ⟨by decide, by decide⟩, _, _, rfl, rfl, ?_⟩
      have b0 : 0 ≤ 69997 * (t + 1) + Int.fdiv q 11 ∧ 69997 * (t + 1) + Int.fdiv q 11 < 9223372036854775808 := by
        rw [Int.fdiv_eq_ediv_of_nonneg _ (by decide)]
        omega
      -- for cell in state["cells"]
      refine ⟨_, rfl, d, _, rfl, dget_of fd (get_cells g c l (t + 1)), c, rfl, ⟨_, .inl (.inl fc)⟩, for_list (K := K) (a := c) (xs := cs.map V.int)
        (fun i σ H3 => ∃ (v4 : Option V) (b : Int), H2 = H3 ∧ (0 ≤ b ∧ b < 9223372036854775808) ∧ σ = [some (.ref d), some (.int f), some (.int q), some (.int b), v4]) ⟨v4, _, rfl, b0, rfl⟩
        (fun i σ H3 _ ⟨_, _, e, _, _⟩ => by rw [← e]; exact .inl (.inl fc)) ?_ ?_⟩
      · rintro j x σ H3 hj ⟨v4, b, rfl, hb, rfl⟩
        obtain ⟨z, hz, rfl⟩ := List.mem_map.mp (List.mem_of_getElem? hj)
        refine ⟨_, rfl, _, _, rfl, rfl, .inr ⟨by decide, by decide⟩, _, rfl, _, _, rfl, rfl, .inl ⟨_, rfl, _, rfl, _, _, rfl, rfl, (by omega), ?_⟩⟩
        refine ⟨_, _, rfl, ?_, rfl⟩
        rw [Int.fmod_eq_emod_of_nonneg _ (by omega)]
        have e1 := Int.emod_nonneg (b * 48271 + z) (b := q) (by omega)
        have e2 := Int.emod_lt_of_pos (b * 48271 + z) (b := q) (by omega)
        omega
      · rintro σ H3 ⟨v4, b, rfl, hb, rfl⟩
        refine ⟨_, rfl, _, _, rfl, rfl, .inr ⟨by decide, by decide⟩, _, rfl, _, _, rfl, rfl, ⟨by decide, by decide, by omega⟩, .inl ⟨_, rfl, _, rfl, _, _, rfl, rfl, (by omega), _, _, rfl, rfl, ?_⟩⟩
        exact ⟨_, _, _, _, rfl, rfl⟩
    · rintro σ H3 ⟨v2, v3, v4, f, rfl, rfl⟩
      refine ⟨_, rfl, k f _ ⟨⟨l, t + 1, by omega, by omega, fd⟩, ⟨gs, fg⟩, ⟨cs, fc⟩, hgc⟩ (fg.trans hg.symm) fun b o h1 h2 e => ?_⟩
      rw [← eH2, upd_ne (ne_of_none e hp0), upd_ne h1]
      exact e
/-- _law_take: some number from 0 to size - 1 -/
def spTake : Sp := fun vs H Q _ => ∃ (d g c : Addr) (m : Nat) (n : Int), vs = [.ref d, .int n] ∧ Dr H d g c m ∧ m ≤ 1000000000 ∧ 0 < n ∧ n < 1000000000 ∧
  ∀ (r : Int) (H' : Hp), 0 ≤ r → r < n → Dr H' d g c (m + 1) → Mv d g H H' → Q (.int r) H'
theorem ok_take (T : Txt K mg) : FnOk P w K mg base CX0 2 T.f_law_take T.fd_law_take ["_law_state", "_law_size"] spTake := by
  have GM : FnOk P w K mg base CX0 1 T.f_law_mixed T.fd_law_mixed ["_law_state"] spMixed := ok_mixed T
  refine T.F_law_take.ok sc_law_take (fun vs H Q E h => ?_) (fun cdv A outer s H vs Q E hr h => ?_)
  · obtain ⟨d, g, c, m, n, rfl, _⟩ := h
    rfl
  · obtain ⟨d, g, c, m, n, rfl, D, hm, n0, n1, k⟩ := h
    have hu := hu_of hr
    refine ⟨_, pss_cons (ps_if (pt_cmpR op_eq (pe_dget hu (pv 0) pe_str (fun _ _ => rfl)) pe_int (nomark _))
        (pss_one (ps_dput hu (pv 0) pe_str (pe_ifExp (pt_cmpR (op_neD hr.units) (pe_dget hu (pv 0) pe_str (fun _ _ => rfl)) (pe_lst pa_nil) (nomark _))
          (pe_bm PySem.F.plainAttrs_list PySem.F.slot_list_pop PySem.F.type_list_pop mt_popAt (pe_dget hu (pv 0) pe_str (fun _ _ => rfl)) (pa_cons pe_int pa_nil))
          (pe_call GM hr rfl T.g_law_mixed T.F_law_mixed.kp T.b_law_mixed .nil pass0 (pa_cons (pv 0) pa_nil))) rfl)) pss_nil)
      (pss_cons (ps_set (i := 2) sc_law_take.nd rfl (Or.inl rfl) (pe_op op_modN (pe_callTy call_int1 (by rfl) T.z_int (by decide +kernel) (pa_cons (pe_dget hu (pv 0) pe_str (fun _ _ => rfl)) pa_nil)) (pv 1)))
      (pss_cons (ps_dput hu (pv 0) pe_str (pe_op op_fdivN (pe_dget hu (pv 0) pe_str (fun _ _ => rfl)) (pv 1)) rfl)
      (pss_one (ps_ret (pv 2))))), ?_⟩
    obtain ⟨⟨l, t, h0, h1, hd⟩, ⟨gs, hg⟩, ⟨cs, hc⟩, hgc⟩ := id D
    have ngd : g ≠ d := fun e => by rw [e, hd] at hg; cases hg
    have ncd : c ≠ d := fun e => by rw [e, hd] at hc; cases hc
    refine ⟨_, rfl, d, _, rfl, dget_of hd (get_left g c l t), rfl, _, rfl, ?_⟩
    have tail : ∀ (x y : Int) (H1 : Hp), 0 ≤ y → y ≤ m + 1 → H1 d = some (.dK (drK g c x y)) → (∃ ns : List Int, H1 g = some (.lst (ns.map V.int))) → H1 c = some (.lst (cs.map V.int)) → Mv d g H H1 →
        (0 ≤ Int.fmod x n ∧ Int.fmod x n < n) ∧ Q (.int (Int.fmod x n)) (upd H1 d (.dK (drK g c (Int.fdiv x n) y))) := by
      intro x y H1 y0 y1 e1 e2 e3 mv
      have r0 : 0 ≤ Int.fmod x n ∧ Int.fmod x n < n := by
        rw [Int.fmod_eq_emod_of_nonneg _ (by omega)]
        exact ⟨Int.emod_nonneg _ (by omega), Int.emod_lt_of_pos _ n0⟩
      obtain ⟨ns, e2⟩ := e2
      refine ⟨r0, k _ _ r0.1 r0.2 ⟨⟨_, y, y0, by omega, upd_same⟩, ⟨ns, by rw [upd_ne ngd]; exact e2⟩, ⟨cs, by rw [upd_ne ncd]; exact e3⟩, hgc⟩ (mv.trans Mv.upd)⟩
    refine ite2 (fun _ => ?_) (fun _ => ?_)
    · refine ⟨_, rfl, d, _, rfl, dget_of hd (get_great g c l t), (by show 0 ≤ sizeLine; decide), fun p hp => ?_⟩
      have sp1 : Same H (upd H p (.lst [])) := same_new hp
      refine ⟨_, _, .lst (.inl (.inl (sp1 _ _ hg))) (dp_ints gs), .lst (.inl (.inl upd_same)) .nil, PySem.W.ke_shaped_ints gs, by decide, _, rfl, ?_⟩
      match gs, hg with
      | [], hg =>
        refine iteF ?_
        refine ⟨_, rfl, d, g, c, m, rfl, D.same sp1, hm, fun r H1 D1 eg mv => ?_⟩
        obtain ⟨⟨l1, t1, g0, g1, hd1⟩, ⟨gs1, hg1⟩, ⟨cs1, hc1⟩, _⟩ := id D1
        refine ⟨_, rfl, d, _, rfl, dput_of hd1 (small4 g c l1 t1) (put_left g c l1 t1 r), ?_⟩
        have hc2 : H1 c = some (.lst (cs.map V.int)) := mv c _ ncd hgc.symm (sp1 _ _ hc)
        obtain ⟨r0, z⟩ := tail r t1 (upd H1 d (.dK (drK g c r t1))) g0 (by omega) upd_same ⟨gs1, by rw [upd_ne ngd]; exact hg1⟩ (by rw [upd_ne ncd]; exact hc2) (((Mv.same sp1).trans mv).trans Mv.upd)
        refine ⟨_, rfl, d, _, rfl, dget_of upd_same (get_left g c r t1), .inl ⟨_, rfl, _, rfl, _, _, rfl, rfl, (by omega), ?_⟩⟩
        exact ⟨_, rfl, d, _, rfl, dget_of upd_same (get_left g c r t1), _, rfl, _, _, rfl, rfl, ⟨by omega, by omega⟩, _, rfl, d, _, rfl, dput_of upd_same (small4 g c r t1) (put_left g c r t1 _), _, rfl, z⟩
      | x :: gs, hg =>
        refine iteT ?_
        refine ⟨_, rfl, d, _, rfl, dget_of (sp1 _ _ hd) (get_great g c l t), .inl ⟨rfl, _, .inl (.inl (sp1 _ _ hg))⟩, g, _, 0, 0, _, rfl, rfl, sp1 _ _ hg, by decide, by decide, ix0 _ _, rfl, ?_⟩
        have hd1 : (upd (upd H p (.lst [])) g (.lst (((x :: gs).map V.int).eraseIdx 0))) d = some (.dK (drK g c l t)) := by rw [upd_ne ngd.symm]; exact sp1 _ _ hd
        refine ⟨_, rfl, d, _, rfl, dput_of hd1 (small4 g c l t) (put_left g c l t x), ?_⟩
        obtain ⟨r0, z⟩ := tail x t (upd (upd (upd H p (.lst [])) g (.lst (((x :: gs).map V.int).eraseIdx 0))) d (.dK (drK g c x t))) h0 (by omega) upd_same ⟨gs, by rw [upd_ne ngd, upd_same]; rfl⟩ (by rw [upd_ne ncd, upd_ne hgc.symm]; exact sp1 _ _ hc) (fun b o b1 b2 e => by rw [upd_ne b1, upd_ne b2]; exact sp1 _ _ e)
        refine ⟨_, rfl, d, _, rfl, dget_of upd_same (get_left g c x t), .inl ⟨_, rfl, _, rfl, _, _, rfl, rfl, (by omega), ?_⟩⟩
        exact ⟨_, rfl, d, _, rfl, dget_of upd_same (get_left g c x t), _, rfl, _, _, rfl, rfl, ⟨by omega, by omega⟩, _, rfl, d, _, rfl, dput_of upd_same (small4 g c x t) (put_left g c x t _), _, rfl, z⟩
    · obtain ⟨r0, z⟩ := tail l t H h0 (by omega) hd ⟨gs, hg⟩ hc (Mv.refl _ _ _)
      refine ⟨_, rfl, d, _, rfl, dget_of hd (get_left g c l t), .inl ⟨_, rfl, _, rfl, _, _, rfl, rfl, (by omega), ?_⟩⟩
      exact ⟨_, rfl, d, _, rfl, dget_of hd (get_left g c l t), _, rfl, _, _, rfl, rfl, ⟨by omega, by omega⟩, _, rfl, d, _, rfl, dput_of hd (small4 g c l t) (put_left g c l t _), _, rfl, z⟩
theorem at_int {α : Type} {xs : List α} {r : Int} (h0 : 0 ≤ r) (h1 : r < xs.length) : ∃ v, v ∈ xs ∧ atI xs r = some v := by
  obtain ⟨j, rfl⟩ := Int.eq_ofNat_of_zero_le h0
  have hj : j < xs.length := by omega
  exact ⟨xs[j], List.getElem_mem hj, atI_nat (List.getElem?_eq_getElem hj)⟩
/-- _law_pick: a sign of a text that is not empty, an item of a list that is not empty -/
def spPick : Sp := fun vs H Q _ => ∃ (d g c : Addr) (m : Nat), Dr H d g c m ∧ m ≤ 1000000000 ∧
  ((∃ z : Str, vs = [.ref d, .str z] ∧ 0 < z.length ∧ z.length ≤ 1000 ∧ ∀ (x : Nat) (H' : Hp), x ∈ z.cps.toList → Dr H' d g c (m + 1) → Mv d g H H' → Q (.str ⟨#[x]⟩) H') ∨
   (∃ (p : Addr) (xs : List V), vs = [.ref d, .ref p] ∧ H p = some (.lst xs) ∧ p ≠ g ∧ 0 < xs.length ∧ xs.length ≤ 1000 ∧ ∀ (x : V) (H' : Hp), x ∈ xs → Dr H' d g c (m + 1) → Mv d g H H' → Q x H'))
theorem ok_pick (T : Txt K mg) : FnOk P w K mg base CX0 3 T.f_law_pick T.fd_law_pick ["_law_state", "_law_some"] spPick := by
  have GT : FnOk P w K mg base CX0 2 T.f_law_take T.fd_law_take ["_law_state", "_law_size"] spTake := ok_take T
  refine T.F_law_pick.ok sc_law_pick (fun vs H Q E h => ?_) (fun cdv A outer s H vs Q E hr h => ?_)
  · obtain ⟨d, g, c, m, _, _, ⟨z, rfl, _⟩ | ⟨p, xs, rfl, _⟩⟩ := h
    · rfl
    · rfl
  · obtain ⟨d, g, c, m, D, hm, h⟩ := h
    refine ⟨_, pss_one (ps_ret (pe_ix ix_seq (pv 1) (pe_call GT hr rfl T.g_law_take T.F_law_take.kp T.b_law_take .nil pass0 (pa_cons (pv 0) (pa_cons (pe_callB call_len (by rfl) T.z_len PySem.boot_len (pa_cons (pv 1) pa_nil)) pa_nil))) (fun _ _ => rfl))), ?_⟩
    rcases h with ⟨z, rfl, z0, z1, k⟩ | ⟨p, xs, rfl, hp, npg, z0, z1, k⟩
    · have zs : z.length ≤ sizeLine := Nat.le_of_lt (small1000 z1)
      refine ⟨_, rfl, _, rfl, _, rfl, _, z.length, rfl, ⟨zs, rfl⟩, d, g, c, m, _, rfl, D, hm, by omega, by omega, fun r H' r0 r1 D' mv => ?_⟩
      obtain ⟨x, hx, ex⟩ := at_int (xs := z.cps.toList) r0 (by show r < (z.length : Int); omega)
      exact .inr (.inr ⟨z, r, x, rfl, rfl, zs, ex, k _ H' hx D' mv⟩)
    · refine ⟨_, rfl, _, rfl, _, rfl, _, xs.length, rfl, .inl ⟨xs, .inl (.inl hp), rfl⟩, d, g, c, m, _, rfl, D, hm, by omega, by omega, fun r H' r0 r1 D' mv => ?_⟩
      have npd : p ≠ d := by
        obtain ⟨l, t, _, _, hd⟩ := D.di
        exact ne_of hp hd (by intro z; cases z)
      obtain ⟨x, hx, ex⟩ := at_int (xs := xs) r0 r1
      exact .inl ⟨p, xs, r, x, rfl, rfl, .inl (.inl (mv p _ npd npg hp)), ex, k _ H' hx D' mv⟩
/-- _law_begun: a new state -/
def spBegun (K : PySem.W.Frag) : Sp := fun vs H Q _ => ∃ (a : Addr) (ns : List Int), vs = [.ref a] ∧ SqL K H a (ns.map V.int) ∧ ns.length ≤ 1000 ∧
  ∀ (d g c : Addr) (H' : Hp), H d = none → H g = none → H c = none → Dr H' d g c 0 → Same H H' → Q (.ref d) H'
theorem ok_begun (T : Txt K mg) : FnOk P w K mg base CX0 1 T.f_law_begun T.fd_law_begun ["_law_script"] (spBegun K) := by
  refine T.F_law_begun.ok sc_law_begun (fun vs H Q E h => ?_) (fun cdv A outer s H vs Q E hr h => ?_)
  · obtain ⟨a, ns, rfl, _⟩ := h
    rfl
  · obtain ⟨a, ns, rfl, hS, hl, k⟩ := h
    refine ⟨_, pss_cons (ps_setLc (i := 1) (own := [("_law_cell", 2)]) (g := gName 2) rfl sc_law_begun.nd rfl rfl (sw_true rfl rfl rfl (by decide +kernel)) (pi_list (pv 0))
        (blkOk_by (own := [("_law_cell", 2)]) (N := n_law_begun) (sc := defScope s_law_begun) (by decide +kernel))
        (fun _ _ _ _ _ => pg_name (i := 2) sc_law_begun.nd rfl (Or.inl rfl))
        (fun _ _ _ _ _ => pts_one (pt_cmpR op_ge (pv 2) (pe_op op_pow pe_int pe_int) (nomark _)))
        (fun _ _ _ _ _ => pe_op op_sub (pv 2) (pe_op op_pow pe_int pe_int)))
      (pss_one (ps_ret (pe_disp (pps_cons pe_str (pv 1) (pps_cons pe_str (pe_callTy call_list_of (by rfl) T.z_list (by decide +kernel) (pa_cons (pv 0) pa_nil)) (pps_cons pe_str pe_int (pps_cons pe_str pe_int pps_nil)))) (by rfl) (by rfl) (fun z => by cases z) (by decide)))), ?_⟩
    refine ⟨_, rfl, a, rfl, ⟨_, hS⟩, fun D hD => ?_⟩
    have sm : ∀ o, Same H (upd H D o) := fun o => same_new hD
    refine lc_list (K := K) (a := a) (xs := ns.map V.int) (fun i H1 => ∃ gs : List Int, H1 = upd H D (.lst (gs.map V.int)) ∧ gs.length ≤ i) ⟨[], rfl, Nat.le_refl _⟩
      (fun i H1 _ ⟨gs, e, _⟩ => by rw [e]; exact (sm _).seq hS) ?_ ?_
    · rintro i x H1 hx ⟨gs, rfl, hg⟩
      have hi : i < (ns.map V.int).length := (List.getElem?_eq_some_iff.mp hx).1
      rw [List.length_map] at hi
      obtain ⟨z, hz, rfl⟩ := List.mem_map.mp (List.mem_of_getElem? hx)
      refine ⟨rfl, _, rfl, _, _, rfl, rfl, ⟨by decide, by decide, by decide⟩, _, _, rfl, rfl, _, rfl, ?_⟩
      refine ite2 (fun _ => ?_) (fun _ => ?_)
      · refine ⟨_, rfl, _, _, rfl, rfl, ⟨by decide, by decide, by decide⟩, _, _, rfl, rfl, _, upd_same, ?_, ?_⟩
        · rw [List.length_map]
          exact small1000 (by omega)
        · refine ⟨gs ++ [z - 10 ^ 18], ?_, by rw [List.length_append]; show gs.length + 1 ≤ i + 1; omega⟩
          rw [upd_upd, List.map_append]
          rfl
      · exact ⟨gs, rfl, by omega⟩
    · rintro H1 ⟨gs, rfl, hg⟩
      intro d hd
      have nDd : D ≠ d := fun e => by rw [← e, upd_same] at hd; cases hd
      have hd0 : H d = none := by rw [upd_ne nDd.symm] at hd; exact hd
      have s1 : Same (upd H D (.lst (gs.map V.int))) (upd (upd H D (.lst (gs.map V.int))) d (.dK [])) := same_new hd
      refine ⟨_, rfl, _, rfl, a, _, rfl, .inl (s1.seq ((sm _).seq hS)), fun c hc => ?_⟩
      have s2 : Same (upd (upd H D (.lst (gs.map V.int))) d (.dK [])) (upd (upd (upd H D (.lst (gs.map V.int))) d (.dK [])) c (.lst (ns.map V.int))) := same_new hc
      have hgD := s2 _ _ (s1 _ _ (upd_same (H := H) (a := D) (o := .lst (gs.map V.int))))
      have hdd := s2 _ _ (upd_same (H := upd H D (.lst (gs.map V.int))) (a := d) (o := .dK []))
      have ndc : d ≠ c := fun e => by rw [← e, upd_same] at hc; cases hc
      have nDc : D ≠ c := fun e => by rw [← e] at hc; rw [s1 _ _ upd_same] at hc; cases hc
      have hc0 : H c = none := by rw [upd_ne ndc.symm, upd_ne nDc.symm] at hc; exact hc
      refine ⟨hdd, drK D c 0 0, rfl, by show 4 ≤ 15; decide, ?_⟩
      have em : mergeK [] (drK D c 0 0) = drK D c 0 0 := by kernel_rfl
      rw [em]
      refine k d D c _ hd0 hD hc0 ⟨⟨0, 0, by omega, by omega, upd_same⟩, ⟨gs, ?_⟩, ⟨ns, ?_⟩, nDc⟩ fun b o e => ?_
      · rw [upd_ne nDd]; exact hgD
      · rw [upd_ne ndc.symm, upd_same]
      · rw [upd_ne (ne_of_none e hd0)]; exact s2 _ _ (s1 _ _ (sm _ _ _ e))
end
end Sn

/-! ## The program's is_word, is_name, is_path -/
namespace Sn
open PySem PySem.Spec PyProof.Rows L2 TL

/-- a value that is no text -/
def NoStr (K : PySem.W.Frag) (H : Hp) (v : V) : Prop := ∃ t, TyX K H v t ∧ PySem.W.kitOne K t (.type "str") = some false
/-- a value that may be asked: a text that is not too long, or no text -/
def Arg (K : PySem.W.Frag) (H : Hp) (v : V) : Prop := (∃ z : Str, v = .str z ∧ z.length ≤ 1000) ∨ NoStr K H v
def ans (f : Str → Bool) : V → Bool
  | .str z => f z
  | _ => false
theorem NoStr.ans {K : PySem.W.Frag} {H : Hp} {v : V} (h : NoStr K H v) (f : Str → Bool) : ans f v = false := by
  obtain ⟨t, ty, hk⟩ := h
  cases v with
  | str z =>
    cases ty with
    | base b =>
      cases b
      have e : PySem.W.kitOne K (.type "str") (.type "str") = some true := kit_ty (by decide +kernel)
      rw [e] at hk
      cases hk
  | _ => rfl
theorem tyX_same {K : PySem.W.Frag} {H H' : Hp} {v : V} {t : Value} (s : Same H H') (h : TyX K H v t) : TyX K H' v t := by
  cases h with
  | base b =>
    refine .base ?_
    cases b with
    | non => exact .non
    | bl x => exact .bl x
    | int x => exact .int x
    | str x => exact .str x
    | flt x => exact .flt x
    | lst e => exact .lst (s _ _ e)
    | frz e => exact .frz (s _ _ e)
    | tup e => exact .tup (s _ _ e)
    | dK e => exact .dK (s _ _ e)
    | dT e => exact .dT (s _ _ e)
    | ins e a b c d f => exact .ins (s _ _ e) a b c d f
  | byt b => exact .byt b
  | set e => exact .set (s _ _ e)
  | kList e c => exact .kList e c
  | kTuple e c => exact .kTuple e c
  | kDict e c => exact .kDict e c
  | fTuple e => exact .fTuple (s _ _ e)
  | fDict e => exact .fDict (s _ _ e)
theorem Arg.same {K : PySem.W.Frag} {H H' : Hp} {v : V} (h : Arg K H v) (s : Same H H') : Arg K H' v := by
  rcases h with h | ⟨t, ty, hk⟩
  · exact .inl h
  · exact .inr ⟨t, tyX_same s ty, hk⟩
theorem same_in {H0 H2 : Hp} {D : Addr} {o : HO} (s : Same H0 H2) (h : H0 D = none) : Same H0 (upd H2 D o) := fun b x e => by
  rw [upd_ne (ne_of_none e h)]
  exact s _ _ e
/-- a question about one value: the answer f of a text, False of any other value -/
def spAsk (K : PySem.W.Frag) (f : Str → Bool) : Sp := fun vs H Q _ => ∃ v : V, vs = [v] ∧ Arg K H v ∧ ∀ H', Same H H' → Q (.bl (ans f v)) H'
theorem len_le {z : Str} (h : z.length ≤ 1000) : z.length ≤ sizeLine := Nat.le_of_lt (small1000 h)
theorem takes {α : Type} {l : List α} {i : Nat} {x : α} (h : l[i]? = some x) : l.take (i + 1) = l.take i ++ [x] := by
  rw [List.take_add_one, h]; rfl

section
variable {P : Program} {w : World} {K : PySem.W.Frag} {mg : Str → Option Value} {base : Heap}
theorem ok_word (T : Txt K mg) : FnOk P w K mg base CX0 1 T.f_is_word T.fd_is_word ["value"] (spAsk K isW) := by
  obtain ⟨t1, g1⟩ := T.c_MOST_SIGNS
  obtain ⟨t2, g2⟩ := T.c_SIGNS
  refine T.F_is_word.ok sc_is_word (fun vs H Q E h => ?_) (fun cdv A outer s H vs Q E hr h => ?_)
  · obtain ⟨v, rfl, _⟩ := h
    rfl
  · obtain ⟨v, rfl, ha, k⟩ := h
    refine ⟨_, pss_one (ps_ret (pe_and (pe_callB call_isi (by rfl) T.z_isinstance (by decide +kernel) (pa_cons (pv 0) (pa_cons (pe_bltn (v := .ty "str") (by rfl) T.z_str (by decide +kernel) rfl) pa_nil)))
      (pe_and (pe_cmpR op_le (pe_callB call_len (by rfl) T.z_len PySem.boot_len (pa_cons (pv 0) pa_nil)) (pe_glob (v := .int 8) rfl g1 ⟨_, rfl⟩) (nomark _))
      (pe_one (pe_callB (cr_all rfl) (by rfl) T.z_all (by decide +kernel) (pa_cons (pe_lc (own := [("sign", 1)]) (g := gName 1) (by rfl) sc_is_word.nd (pi_str (pv 0))
        (blkOk_by (own := [("sign", 1)]) (N := n_is_word) (sc := defScope s_is_word) (by decide +kernel))
        (fun _ _ _ _ _ => pg_name (i := 1) sc_is_word.nd rfl (Or.inl rfl)) (fun _ _ _ _ _ => pts_nil)
        (fun _ _ _ _ _ => pe_cmpR op_in_sign (pv 1) (pe_glob (v := .str sgnS) rfl g2 ⟨_, rfl⟩) rfl)) pa_nil)))))), ?_⟩
    rcases ha with ⟨z, rfl, hz⟩ | hn
    · refine ⟨_, rfl, _, .ty "str", .type "str", .type "str", true, rfl, .ty "str", .base (.str z), kit_ty (by decide +kernel), true, rfl, iteT ?_⟩
      refine ⟨_, rfl, _, z.length, rfl, ⟨len_le hz, rfl⟩, _, _, rfl, rfl, _, rfl, ?_⟩
      by_cases h8 : z.length ≤ 8
      · rw [decide_eq_true (show (z.length : Int) ≤ 8 by omega)]
        refine iteT ?_
        refine ⟨_, rfl, z, rfl, fun D hD => ?_⟩
        refine lc_it walk_str (fun i H1 => H1 = upd H D (.lst (((tl z).take i).map fun c => V.bl (decide (c ∈ tl sgnS))))) rfl (fun _ _ _ _ => trivial) ?_ ?_
        · rintro i x H1 H2 hi rfl ⟨rfl, c, hc, rfl⟩
          refine ⟨rfl, ?_⟩
          have hc2 : (tl z)[i]? = some c := by simpa using hc
          refine ⟨_, rfl, c, sgnS, rfl, rfl, _, upd_same, ?_, ?_⟩
          · rw [List.length_map]
            have : ((tl z).take i).length ≤ z.length := by rw [List.length_take, len_tl]; omega
            exact small1000 (by omega)
          · rw [upd_upd, takes hc2, List.map_append]; rfl
        · rintro H1 rfl
          refine ⟨D, (tl z).map fun c => decide (c ∈ tl sgnS), rfl, .inl (.inl ?_), ?_⟩
          · rw [upd_same, show z.cps.size = (tl z).length by simp, List.take_length, List.map_map]; rfl
          · have e : isW z = (((tl z).map fun c => decide (c ∈ tl sgnS)).all id) := by
              unfold isW
              rw [decide_eq_true h8, Bool.true_and, List.all_map]; rfl
            have q := k _ (same_new (H := H) (p := D) (o := .lst (((tl z).take z.cps.size).map fun c => V.bl (decide (c ∈ tl sgnS)))) hD)
            show Q (.bl _) _
            rw [← e]
            exact q
      · rw [decide_eq_false (show ¬ (z.length : Int) ≤ 8 by omega)]
        refine iteF ?_
        have e : isW z = false := by unfold isW; rw [decide_eq_false h8, Bool.false_and]
        have q := k H (Same.refl H)
        rw [show ans isW (.str z) = isW z from rfl, e] at q
        exact q
    · obtain ⟨t, ty, hk⟩ := id hn
      refine ⟨_, rfl, _, .ty "str", t, .type "str", false, rfl, .ty "str", ty, hk, false, rfl, iteF ?_⟩
      have q := k H (Same.refl H)
      rw [hn.ans] at q
      exact q
theorem ok_name (T : Txt K mg) : FnOk P w K mg base CX0 2 T.f_is_name T.fd_is_name ["value"] (spAsk K isN) := by
  have GW : FnOk P w K mg base CX0 1 T.f_is_word T.fd_is_word ["value"] (spAsk K isW) := ok_word T
  obtain ⟨t1, g1⟩ := T.c_LETTERS
  refine T.F_is_name.ok sc_is_name (fun vs H Q E h => ?_) (fun cdv A outer s H vs Q E hr h => ?_)
  · obtain ⟨v, rfl, _⟩ := h
    rfl
  · obtain ⟨v, rfl, ha, k⟩ := h
    refine ⟨_, pss_one (ps_ret (pe_and (pe_call GW hr rfl T.g_is_word T.F_is_word.kp T.b_is_word .nil pass0 (pa_cons (pv 0) pa_nil))
      (pe_and (pe_cmpR op_in_seq (pe_slice sl_str (pv 0) po_none (po_some pe_int)) (pe_callTy call_tupS (by rfl) T.z_tuple (by decide +kernel) (pa_cons (pe_glob (v := .str letS) rfl g1 ⟨_, rfl⟩) pa_nil)) (by rfl))
      (pe_one (pe_cmpR op_notIn_seq (pv 0) (pe_glob (v := .ref T.a_RESERVED) rfl T.c_RESERVED rfl) (by rfl)))))), ?_⟩
    refine ⟨_, rfl, v, rfl, ha, fun H1 s1 => ⟨_, rfl, ?_⟩⟩
    by_cases hw : ans isW v = true
    · rw [hw]
      refine iteT ?_
      rcases ha with ⟨z, rfl, hz⟩ | hn
      · have hw2 : isW z = true := hw
        refine ⟨_, rfl, _, rfl, z, rfl, len_le hz, letS, rfl, hr.hd, by decide +kernel, fun l hl => ?_⟩
        refine ⟨l, _, rfl, .inr (.inl (.inl upd_same)), rfl, ?_, _, rfl, ?_⟩
        · rw [signs_map]; exact flat_strs _
        · have s2 : Same H (upd H1 l (.tup ((tl letS).map fun c => V.str ⟨#[c]⟩))) := s1.trans (same_new hl)
          have e1 : inV (.str (cutS z none (some 1))) ((tl letS).map fun c => V.str ⟨#[c]⟩) = fstL z := fst_in z
          show if (inV (.str (cutS z none (some 1))) ((tl letS).map fun c => V.str ⟨#[c]⟩)) = true then _ else _
          rw [e1]
          by_cases hf : fstL z = true
          · rw [hf]
            refine iteT ?_
            refine ⟨_, rfl, T.a_RESERVED, resv.map V.str, rfl, .inr (T.q_RESERVED _), rfl, flat_strs _, ?_⟩
            have q := k _ s2
            have e : ans isN (.str z) = !inV (.str z) (resv.map V.str) := by
              show isN z = _
              unfold isN
              rw [hw2, hf, inV_strs]; rfl
            rw [e] at q
            exact q
          · rw [show fstL z = false by simpa using hf]
            refine iteF ?_
            have q := k _ s2
            have e : ans isN (.str z) = false := by
              show isN z = _
              unfold isN
              rw [hw2, show fstL z = false by simpa using hf]; rfl
            rw [e] at q
            exact q
      · rw [hn.ans] at hw
        cases hw
    · rw [show ans isW v = false by simpa using hw]
      refine iteF ?_
      have e : ans isN v = false := by
        cases v with
        | str z =>
          show isN z = _
          unfold isN
          rw [show isW z = false from Bool.eq_false_iff.mpr hw]; rfl
        | _ => rfl
      have q := k H1 s1
      rw [e] at q
      exact q
theorem ok_path (T : Txt K mg) : FnOk P w K mg base CX0 3 T.f_is_path T.fd_is_path ["value"] (spAsk K isP) := by
  have GN : FnOk P w K mg base CX0 2 T.f_is_name T.fd_is_name ["value"] (spAsk K isN) := ok_name T
  refine T.F_is_path.ok sc_is_path (fun vs H Q E h => ?_) (fun cdv A outer s H vs Q E hr h => ?_)
  · obtain ⟨v, rfl, _⟩ := h
    rfl
  · obtain ⟨v, rfl, ha, k⟩ := h
    refine ⟨_, pss_cons (ps_if (pt_not (pt_val (pe_callB call_isi (by rfl) T.z_isinstance (by decide +kernel) (pa_cons (pv 0) (pa_cons (pe_bltn (v := .ty "str") (by rfl) T.z_str (by decide +kernel) rfl) pa_nil))))) (pss_one (ps_ret pe_bl)) pss_nil)
      (pss_cons (ps_set (i := 1) sc_is_path.nd rfl (Or.inl rfl) (pe_split (pv 0) pe_str))
      (pss_one (ps_ret (pe_and (pe_cmpR op_eq (pe_callB call_len (by rfl) T.z_len PySem.boot_len (pa_cons (pv 1) pa_nil)) pe_int (nomark _))
        (pe_one (pe_callB (cr_all rfl) (by rfl) T.z_all (by decide +kernel) (pa_cons (pe_lc (own := [("part", 2)]) (g := gName 2) (by rfl) sc_is_path.nd (pi_list (pv 1))
          (blkOk_by (own := [("part", 2)]) (N := n_is_path) (sc := defScope s_is_path) (by decide +kernel))
          (fun _ _ _ _ _ => pg_name (i := 2) sc_is_path.nd rfl (Or.inl rfl)) (fun _ _ _ _ _ => pts_nil)
          (fun _ _ _ _ _ => pe_call GN hr rfl T.g_is_name T.F_is_name.kp T.b_is_name .nil pass0 (pa_cons (pv 2) pa_nil))) pa_nil))))))), ?_⟩
    rcases ha with ⟨z, rfl, hz⟩ | hn
    · refine ⟨_, rfl, _, .ty "str", .type "str", .type "str", true, rfl, .ty "str", .base (.str z), kit_ty (by decide +kernel), true, rfl, iteF ?_⟩
      refine ⟨_, rfl, ⟨_, rfl⟩, z, dotS, rfl, rfl, by decide +kernel, by rw [sizeLine_eq]; omega, fun p hp => ?_⟩
      generalize ep : Txt.split z dotS = ps
      have s1 : Same H (upd H p (.lst (ps.map V.str))) := same_new hp
      have eP : isP z = (decide (ps.length = 2) && ps.all isN) := by rw [← ep]; rfl
      refine ⟨_, rfl, _, ps.length, rfl, .inl ⟨_, .inl (.inl upd_same), by rw [List.length_map]⟩, rfl, _, rfl, ?_⟩
      by_cases h2 : ps.length = 2
      · rw [show (decide (V.int (ps.length : Int) = V.int 2)) = true by rw [h2]; rfl]
        refine iteT ?_
        refine ⟨_, rfl, p, rfl, ⟨_, .inl (.inl upd_same)⟩, fun D hD => ?_⟩
        refine lc_list (K := K) (a := p) (xs := ps.map V.str) (fun i H2 => Same (upd H p (.lst (ps.map V.str))) H2 ∧ H2 D = some (.lst (((ps.take i).map isN).map V.bl)))
          ⟨same_new hD, by rw [upd_same]; rfl⟩ (fun i H2 _ q => .inl (.inl (q.1 _ _ upd_same))) ?_ ?_
        · rintro i x H2 hx ⟨q1, q2⟩
          obtain ⟨y, hy, rfl⟩ : ∃ y, ps[i]? = some y ∧ V.str y = x := by
            rw [List.getElem?_map] at hx
            cases e : ps[i]? with
            | none => rw [e] at hx; cases hx
            | some y => rw [e] at hx; exact ⟨y, rfl, Option.some.inj hx⟩
          have hyl : y.length ≤ 1000 := by
            have := split_le z y (by rw [ep]; exact List.mem_of_getElem? hy)
            omega
          refine ⟨rfl, ?_⟩
          refine ⟨_, rfl, _, rfl, .inl ⟨y, rfl, hyl⟩, fun H3 s3 => ⟨_, s3 _ _ q2, ?_, same_in (q1.trans s3) hD, ?_⟩⟩
          · rw [List.length_map, List.length_map]
            have : (ps.take i).length ≤ ps.length := by rw [List.length_take]; omega
            exact small1000 (by omega)
          · rw [upd_same, takes hy, List.map_append, List.map_append]; rfl
        · rintro H2 ⟨q1, q2⟩
          rw [List.length_map, List.take_length] at q2
          refine ⟨D, ps.map isN, rfl, .inl (.inl q2), ?_⟩
          have q := k H2 (s1.trans q1)
          rw [show ans isP (.str z) = ((ps.map isN).all id) by
            show isP z = _
            rw [eP, decide_eq_true h2, Bool.true_and, List.all_map]; rfl] at q
          exact q
      · rw [show (decide (V.int (ps.length : Int) = V.int 2)) = false by
          refine decide_eq_false fun e => h2 ?_
          injection e with e
          omega]
        refine iteF ?_
        have q := k _ s1
        rw [show ans isP (.str z) = false by
          show isP z = _
          rw [eP, decide_eq_false h2, Bool.false_and]] at q
        exact q
    · obtain ⟨t, ty, hk⟩ := id hn
      refine ⟨_, rfl, _, .ty "str", t, .type "str", false, rfl, .ty "str", ty, hk, false, rfl, iteT ?_⟩
      have q := k H (Same.refl H)
      rw [hn.ans] at q
      exact q
end
end Sn

/-! ## The laws' drawn words and names: _law_reserved, _law_any_word, _law_any_name -/
namespace Sn
open PySem PySem.Spec PyProof.Rows L2 TL
def wordsS : Str := "as ask call def each else entry except fail if in let offer return set table there try use"
theorem words_split : Txt.split wordsS " " = resv := by decide +kernel
section
variable {P : Program} {w : World} {K : PySem.W.Frag} {mg : Str → Option Value} {base : Heap}
def spRes : Sp := fun vs H Q _ => vs = [] ∧ ∀ p, H p = none → Q (.ref p) (upd H p (.lst (resv.map V.str)))
theorem ok_reserved (T : Txt K mg) : FnOk P w K mg base CX0 1 T.f_law_reserved T.fd_law_reserved [] spRes := by
  refine T.F_law_reserved.ok sc_law_reserved (fun vs H Q E h => ?_) (fun cdv A outer s H vs Q E hr h => ?_)
  · obtain ⟨rfl, _⟩ := h
    rfl
  · obtain ⟨rfl, k⟩ := h
    refine ⟨_, pss_cons (ps_set (i := 0) sc_law_reserved.nd rfl (Or.inl rfl) pe_str) (pss_one (ps_ret (pe_split (pv 0) pe_str))), ?_⟩
    refine ⟨_, rfl, ⟨_, rfl⟩, wordsS, " ", rfl, rfl, by decide +kernel, by decide +kernel, fun p hp => ?_⟩
    rw [words_split]
    exact k p hp
/-- a drawn word: its length and its signs are told -/
def spAnyW : Sp := fun vs H Q _ => ∃ (d g c : Addr) (m a b : Nat), vs = [.ref d, .int a, .int b] ∧ Dr H d g c m ∧ m + 30 ≤ 1000000000 ∧ a ≤ b ∧ b ≤ 20 ∧
  ∀ (z : Str) (H' : Hp), a ≤ z.length → z.length ≤ b → (∀ x ∈ tl z, x ∈ tl sgnS) → Dr H' d g c (m + 30) → Mv d g H H' → Q (.str z) H'
theorem ok_any_word (T : Txt K mg) : FnOk P w K mg base CX0 4 T.f_law_any_word T.fd_law_any_word ["_law_state", "_law_least", "_law_most"] spAnyW := by
  have GT : FnOk P w K mg base CX0 2 T.f_law_take T.fd_law_take ["_law_state", "_law_size"] spTake := ok_take T
  have GP : FnOk P w K mg base CX0 3 T.f_law_pick T.fd_law_pick ["_law_state", "_law_some"] spPick := ok_pick T
  refine T.F_law_any_word.ok sc_law_any_word (fun vs H Q E h => ?_) (fun cdv A outer s H vs Q E hr h => ?_)
  · obtain ⟨d, g, c, m, a, b, rfl, _⟩ := h
    rfl
  · obtain ⟨d, g, c, m, a, b, rfl, D, hm, hab, hb, k⟩ := h
    have hr2 := hr.mono (j := 2) (by decide)
    refine ⟨_, pss_cons (ps_set (i := 3) sc_law_any_word.nd rfl (Or.inr rfl) pe_str)
      (pss_one (ps_ret (pe_join pe_str (pe_lc (own := [("_law_turn", 4)]) (g := gName 4) (by rfl) sc_law_any_word.nd
        (pi_range1 (by rfl) T.z_range (pa_cons (pe_op op_add (pv 1) (pe_call GT hr2 rfl T.g_law_take T.F_law_take.kp T.b_law_take .nil pass0 (pa_cons (pv 0) (pa_cons (pe_op op_add (pe_op op_sub (pv 2) (pv 1)) pe_int) pa_nil)))) pa_nil))
        (blkOk_by (own := [("_law_turn", 4)]) (N := n_law_any_word) (sc := defScope s_law_any_word) (by decide +kernel))
        (fun _ _ _ _ _ => pg_name (i := 4) sc_law_any_word.nd rfl (Or.inl rfl)) (fun _ _ _ _ _ => pts_nil)
        (fun _ _ _ _ _ => pe_call GP hr rfl T.g_law_pick T.F_law_pick.kp T.b_law_pick .nil pass0 (pa_cons (pv 0) (pa_cons (pv 3) pa_nil))))))), ?_⟩
    refine ⟨⟨_, rfl⟩, _, rfl, _, rfl, _, rfl, _, rfl, _, _, rfl, rfl, _, _, rfl, rfl, d, g, c, m, _, rfl, D, by omega, by omega, by omega, fun r H1 r0 r1 D1 mv1 => ?_⟩
    obtain ⟨n, rfl⟩ := Int.eq_ofNat_of_zero_le r0
    refine ⟨_, _, rfl, rfl, _, rfl, by omega, by omega, fun L hL => ?_⟩
    have nd : ∀ {m : Nat} {H2 : Hp}, Dr H2 d g c m → H2 L = none → L ≠ d ∧ L ≠ g := fun {m H2} D2 h => by
      obtain ⟨⟨l, t, _, _, hd⟩, ⟨gs, hg⟩, _, _⟩ := D2
      exact ⟨(ne_of_none hd h).symm, (ne_of_none hg h).symm⟩
    obtain ⟨nLd, nLg⟩ := nd D1 hL
    have e0 : ((a : Int) + (n : Int)).toNat = a + n := by omega
    refine lc_range (lo := 0) (n := ((a : Int) + (n : Int)).toNat) (fun i H2 => ∃ l : List Nat, l.length = i ∧ (∀ x ∈ l, x ∈ tl sgnS) ∧ H2 L = some (.lst (l.map fun c => V.str ⟨#[c]⟩)) ∧ Dr H2 d g c (m + 1 + i) ∧ Mv d g H H2)
      ⟨[], rfl, (fun x hx => nomatch hx), upd_same, D1.same (same_new hL), mv1.trans (Mv.same (same_new hL))⟩ ?_ ?_
    · rintro i H2 hi ⟨l, rfl, hs, hl, D2, mv2⟩
      refine ⟨rfl, ?_⟩
      refine ⟨_, rfl, _, rfl, d, g, c, _, D2, by omega, .inl ⟨sgnS, rfl, by decide +kernel, by decide +kernel, fun x H3 hx D3 mv3 => ?_⟩⟩
      refine ⟨_, mv3 _ _ nLd nLg hl, by rw [List.length_map]; exact small1000 (by omega), l ++ [x], by simp, ?_, ?_, ?_, ?_⟩
      · intro y hy
        rcases List.mem_append.mp hy with q | q
        · exact hs y q
        · rw [List.mem_singleton.mp q]; exact hx
      · rw [upd_same, List.map_append]; rfl
      · obtain ⟨⟨l1, t1, q0, q1, q2⟩, ⟨gs, q3⟩, ⟨cs, q4⟩, q5⟩ := D3
        have nLc : c ≠ L := fun e => by
          obtain ⟨_, _, ⟨cs', q6⟩, _⟩ := D1
          rw [e, hL] at q6; cases q6
        exact ⟨⟨l1, t1, q0, by omega, by rw [upd_ne nLd.symm]; exact q2⟩, ⟨gs, by rw [upd_ne nLg.symm]; exact q3⟩, ⟨cs, by rw [upd_ne nLc]; exact q4⟩, q5⟩
      · intro b o h1 h2 e
        have nb : b ≠ L := by
          have q := mv1 b o h1 h2 e
          exact ne_of_none q hL
        rw [upd_ne nb]
        exact mv3 _ _ h1 h2 (mv2 _ _ h1 h2 e)
    · rintro H2 ⟨l, hl0, hs, hl, D2, mv2⟩
      refine ⟨_, L, l.map (fun c => (⟨#[c]⟩ : Str)), rfl, rfl, .inl (.inl (.inl (by rw [← signs_map]; exact hl))), ?_, ?_⟩
      · have e1 : ((l.map (fun c => (⟨#[c]⟩ : Str))).map (·.length)).sum = l.length := by
          rw [List.map_map]
          have key : ∀ l : List Nat, (l.map ((fun z : Str => z.length) ∘ fun c => (⟨#[c]⟩ : Str))).sum = l.length := by
            intro l
            induction l with
            | nil => rfl
            | cons x r ih => rw [List.map_cons, List.sum_cons, ih, List.length_cons]; show 1 + r.length = _; omega
          exact key l
        rw [e1, show ("" : Str).length = 0 by decide +kernel]
        omega
      · have e := join_signs l
        have el : (Txt.join "" (l.map fun c => (⟨#[c]⟩ : Str))).length = l.length := by rw [len_tl, e]
        exact k _ _ (by omega) (by omega) (by rw [e]; exact hs) (D2.mono (by omega)) mv2
/-- a drawn name -/
def spAnyN : Sp := fun vs H Q _ => ∃ (d g c : Addr) (m : Nat), vs = [.ref d] ∧ Dr H d g c m ∧ m + 40 ≤ 1000000000 ∧
  ∀ (z : Str) (H' : Hp), isN z = true → Dr H' d g c (m + 40) → Mv d g H H' → Q (.str z) H'
theorem dr_new {H : Hp} {d g c p : Addr} {m : Nat} (D : Dr H d g c m) (h : H p = none) : p ≠ d ∧ p ≠ g ∧ p ≠ c := by
  obtain ⟨⟨l, t, _, _, hd⟩, ⟨gs, hg⟩, ⟨cs, hc⟩, _⟩ := D
  exact ⟨(ne_of_none hd h).symm, (ne_of_none hg h).symm, (ne_of_none hc h).symm⟩
theorem ok_any_name (T : Txt K mg) : FnOk P w K mg base CX0 5 T.f_law_any_name T.fd_law_any_name ["_law_state"] spAnyN := by
  have GT : FnOk P w K mg base CX0 2 T.f_law_take T.fd_law_take ["_law_state", "_law_size"] spTake := ok_take T
  have GP : FnOk P w K mg base CX0 3 T.f_law_pick T.fd_law_pick ["_law_state", "_law_some"] spPick := ok_pick T
  have GR : FnOk P w K mg base CX0 1 T.f_law_reserved T.fd_law_reserved [] spRes := ok_reserved T
  have GA : FnOk P w K mg base CX0 4 T.f_law_any_word T.fd_law_any_word ["_law_state", "_law_least", "_law_most"] spAnyW := ok_any_word T
  refine T.F_law_any_name.ok sc_law_any_name (fun vs H Q E h => ?_) (fun cdv A outer s H vs Q E hr h => ?_)
  · obtain ⟨d, g, c, m, rfl, _⟩ := h
    rfl
  · obtain ⟨d, g, c, m, rfl, D, hm, k⟩ := h
    have hr1 := hr.mono (j := 1) (by decide)
    have hr2 := hr.mono (j := 2) (by decide)
    have hr3 := hr.mono (j := 3) (by decide)
    refine ⟨_, pss_cons (ps_set (i := 1) sc_law_any_name.nd rfl (Or.inl rfl) (pe_cmpR op_eq (pe_call GT hr2 rfl T.g_law_take T.F_law_take.kp T.b_law_take .nil pass0 (pa_cons (pv 0) (pa_cons pe_int pa_nil))) pe_int (nomark _)))
      (pss_cons (ps_set (i := 2) sc_law_any_name.nd rfl (Or.inl rfl) (pe_op op_add_str (pe_call GP hr3 rfl T.g_law_pick T.F_law_pick.kp T.b_law_pick .nil pass0 (pa_cons (pv 0) (pa_cons pe_str pa_nil)))
          (pe_call GA hr rfl T.g_law_any_word T.F_law_any_word.kp T.b_law_any_word .nil pass0 (pa_cons (pv 0) (pa_cons pe_int (pa_cons pe_int pa_nil))))))
      (pss_cons (ps_if (pt_val (pv 1)) (pss_one (ps_set (i := 2) sc_law_any_name.nd rfl (Or.inl rfl)
          (pe_op op_add_str (pe_call GP hr3 rfl T.g_law_pick T.F_law_pick.kp T.b_law_pick .nil pass0 (pa_cons (pv 0) (pa_cons (pe_call0 GR hr1 rfl T.g_law_reserved T.F_law_reserved.kp T.b_law_reserved .nil pass0) pa_nil)))
            (pe_call GP hr3 rfl T.g_law_pick T.F_law_pick.kp T.b_law_pick .nil pass0 (pa_cons (pv 0) (pa_cons (pe_lst (pa_cons pe_str (pa_cons pe_str (pa_cons pe_str (pa_cons pe_str pa_nil))))) pa_nil)))))) pss_nil)
      (pss_one (ps_ret (pe_ifExp (pt_cmpR op_notIn_seq (pv 2) (pe_call0 GR hr1 rfl T.g_law_reserved T.F_law_reserved.kp T.b_law_reserved .nil pass0) (by rfl)) (pv 2)
        (pe_op op_add_str (pe_slice sl_str (pv 2) po_none (po_some pe_int)) pe_str)))))), ?_⟩
    -- near = take(state, 4) == 0
    refine ⟨_, rfl, d, g, c, m, _, rfl, D, by omega, by decide, by decide, fun r H1 r0 r1 D1 mv1 => ?_⟩
    refine ⟨rfl, ?_⟩
    -- word = pick(..) + any_word(state, 0, 7)
    refine ⟨_, rfl, d, g, c, _, D1, by omega, .inl ⟨letS, rfl, by decide +kernel, by decide +kernel, fun x H2 hx D2 mv2 => ?_⟩⟩
    refine ⟨_, rfl, d, g, c, _, 0, 7, rfl, D2, by omega, by omega, by omega, fun z H3 z0 z1 hz D3 mv3 => ?_⟩
    refine ⟨_, _, rfl, rfl, by rw [sizeLine_eq]; show 1 + z.length ≤ 16777216; omega, ?_⟩
    have m03 : Mv d g H H3 := (mv1.trans mv2).trans mv3
    have ez : tl ((⟨#[x]⟩ : Str) ++ z) = x :: tl z := by rw [tl_append]; rfl
    refine ⟨_, rfl, _, rfl, ite2 (fun _ => ?_) (fun _ => ?_)⟩
    · -- a name near to a reserved word
      refine ⟨_, rfl, rfl, fun p hp => ?_⟩
      obtain ⟨n1, n2, n3⟩ := dr_new D3 hp
      refine ⟨d, g, c, _, D3.same (same_new hp), by omega, .inr ⟨p, _, rfl, upd_same, n2, by decide +kernel, by decide +kernel, fun y H4 hy D4 mv4 => ?_⟩⟩
      obtain ⟨y, hy2, rfl⟩ := List.mem_map.mp hy
      refine ⟨_, rfl, (by show 4 ≤ sizeLine; decide), fun q hq => ?_⟩
      obtain ⟨n4, n5, n6⟩ := dr_new D4 hq
      refine ⟨d, g, c, _, D4.same (same_new hq), by omega, .inr ⟨q, sufS.map V.str, rfl, upd_same, n5, by decide +kernel, by decide +kernel, fun v H5 hv D5 mv5 => ?_⟩⟩
      obtain ⟨v, hv2, rfl⟩ := List.mem_map.mp hv
      have hN : isN (y ++ v) = true := near_ok y hy2 v hv2
      have hL := isN_len hN
      have ly := resv_len y hy2
      have lv := suf_len v hv2
      refine ⟨_, _, rfl, rfl, by rw [sizeLine_eq]; omega, ?_⟩
      have m05 : Mv d g H H5 := (((m03.trans (Mv.same (same_new hp))).trans mv4).trans (Mv.same (same_new hq))).trans mv5
      refine ⟨_, rfl, rfl, fun u hu => ?_⟩
      refine ⟨u, _, rfl, .inl (.inl (.inl upd_same)), rfl, flat_strs _, _, rfl, ?_⟩
      rw [show (if true = true then !inV (V.str (y ++ v)) (resv.map V.str) else inV (V.str (y ++ v)) (resv.map V.str)) = true by
        rw [if_pos rfl, inV_strs, decide_eq_false (isN_res hN)]; rfl]
      refine iteT ⟨_, rfl, ?_⟩
      exact k _ _ hN ((D5.same (same_new hu)).mono (by omega)) (m05.trans (Mv.same (same_new hu)))
    · refine ⟨_, rfl, rfl, fun u hu => ?_⟩
      refine ⟨u, _, rfl, .inl (.inl (.inl upd_same)), rfl, flat_strs _, _, rfl, ?_⟩
      have D4 := (D3.same (same_new (o := .lst (resv.map V.str)) hu)).mono (show m + 1 + 1 + 30 ≤ m + 40 by omega)
      have m04 := m03.trans (Mv.same (same_new (o := .lst (resv.map V.str)) hu))
      rw [show (if true = true then !inV (V.str ((⟨#[x]⟩ : Str) ++ z)) (resv.map V.str) else inV (V.str ((⟨#[x]⟩ : Str) ++ z)) (resv.map V.str)) = !decide ((⟨#[x]⟩ : Str) ++ z ∈ resv) by
        rw [if_pos rfl, inV_strs]]
      by_cases hin : (⟨#[x]⟩ : Str) ++ z ∈ resv
      · rw [decide_eq_true hin]
        refine iteF ?_
        have hl := resv_len _ hin
        refine ⟨_, rfl, _, rfl, _, rfl, by rw [sizeLine_eq]; omega, _, _, rfl, rfl, ?_, ?_⟩
        · have q := cutS_length ((⟨#[x]⟩ : Str) ++ z) none (some 7)
          rw [sizeLine_eq, show ("_" : Str).length = 1 by decide +kernel]
          omega
        · exact k _ _ (isN_cut ez hx hz) D4 m04
      · rw [decide_eq_false hin]
        refine iteT ⟨_, rfl, ?_⟩
        exact k _ _ (isN_of ez hx hz (by rw [← len_tl]; exact z1) hin) D4 m04
end
end Sn

/-! ## The class Names where values may be no paths: __init__ raises BadPath -/
namespace Sn
open PySem PySem.Spec PyProof.Rows L2 TL
section
variable {P : Program} {w : World} {K : PySem.W.Frag} {mg : Str → Option Value} {base : Heap}
/-- a def f(a, *v) that may raise -/
theorem okStarX {x ql : Str} {st : Stmt} {f : Addr} {fd : FuncData} {N : List Str} {p1 pv : Str} {k : Nat} {sp : Sp} (F : Fun K x ql st f fd) (S : FnScope N [p1, pv] (defScope st))
    (h0 : ∀ (kV dc pm : Value) (an : Option Addr) (cd ct : Value) (a : Value), bindArgs (PySem.W.fnOf x ql (defArgs st) (defBody st) (defScope st) .none kV dc pm an cd ct) ⟨[a], []⟩ = (newTuple [] >>= fun t => pure [(p1, a), (pv, t)]))
    (h1 : ∀ (kV dc pm : Value) (an : Option Addr) (cd ct : Value) (a r : Value) (rs : List Value), bindArgs (PySem.W.fnOf x ql (defArgs st) (defBody st) (defScope st) .none kV dc pm an cd ct) ⟨a :: r :: rs, []⟩ = (newTuple (r :: rs) >>= fun t => pure [(p1, a), (pv, t)]))
    (hb : ∀ (cd : Value) (A : Around) (fr : List Env) (s : Shared) (H : Hp) (xs : List V) (Q : VK) (E : XK),
      Room k (A.deeper (envOfC ql (defScope st) s.heap.objs.size f cd)) → sp xs H Q E →
      ∃ t, PSs (cxOf (L2.CX P w) P w K mg base N ql (defScope st) f cd A fr s H E) (defBody st) t ∧
        t { nx := fun _ H' => Q .non H', rt := Q } (start N xs) H) :
    FnR P w K mg base (L2.CX P w) (k + 1) f (fun vs H Q E => ∃ ws rest, vs = ws ++ rest ∧ ws.length = [p1].length ∧ rest.length ≤ sizeLine ∧ ∀ p, H p = none → sp (ws ++ [V.ref p]) (upd H p (.tup rest)) Q E) := by
  obtain ⟨oc, od, kV, dc, pm, an, cd, ct, sl, rfl, lk, hcd⟩ := F.ex
  refine StX.fn_star (ps := [p1]) (pv := pv) lk hcd S StX.cxUp (StX.bind_star1 (B := fun us => bindArgs _ ⟨us, []⟩) (fun a => h0 kV dc pm an cd ct a) fun a r rs => h1 kV dc pm an cd ct a r rs) ?_
  intro A fr s H xs Q E hr h
  exact hb cd A fr s H xs Q E hr h
/-- the first value that is no path stands at k -/
def FirstBad (xs : List V) (k : Nat) : Prop := ∃ x, xs[k]? = some x ∧ ans isP x = false ∧ ∀ i y, i < k → xs[i]? = some y → ans isP y = true
/-- what __init__ does with xs: it keeps the paths, or BadPath is raised -/
def InitWay (C CB : Addr) (H : Hp) (a dx : Addr) (xs : List V) (Q : VK) (E : XK) : Prop :=
  (∃ zs : List Str, xs = zs.map V.str ∧ (∀ z ∈ zs, Pth z) ∧ ∀ (t : Addr) (ys : List Str) (H1 : Hp), Same H H1 → H1 t = some (.tup (ys.map V.str)) → Ris ys → (∀ z, z ∈ ys ↔ z ∈ zs) → ys.length ≤ zs.length →
      Q .non (upd H1 a (.ins C dx [("paths", .ref t)]))) ∨
  (∃ k : Nat, FirstBad xs k ∧ ∀ (d : Addr) (H1 : Hp), Same H H1 → H1 d = none → E (.ref CB) (some d) (upd H1 d (.xd [("k", .int k)])))
def spInitX (K : PySem.W.Frag) (C CB : Addr) : Sp := fun vs H Q E => ∃ (a dx : Addr) (xs : List V), vs = .ref a :: xs ∧ H a = some (.ins C dx []) ∧ xs.length < 64 ∧ (∀ x ∈ xs, Arg K H x) ∧ InitWay C CB H a dx xs Q E
def spInitBX (K : PySem.W.Frag) (C CB : Addr) : Sp := fun vs H Q E => ∃ (a dx p : Addr) (xs : List V), vs = [.ref a, .ref p] ∧ H a = some (.ins C dx []) ∧ H p = some (.tup xs) ∧ xs.length < 64 ∧ (∀ x ∈ xs, Arg K H x) ∧ InitWay C CB H a dx xs Q E
theorem ok_initX (T : Txt K mg) (hP : PrOk P) : FnR P w K mg base (L2.CX P w) 4 T.f_Names_init (spInitX K T.C_Names T.C_BadPath) := by
  have GP : FnOk P w K mg base CX0 3 T.f_is_path T.fd_is_path ["value"] (spAsk K isP) := ok_path T
  have R : FnR P w K mg base (L2.CX P w) 4 T.f_Names_init (fun vs H Q E => ∃ ws rest, vs = ws ++ rest ∧ ws.length = (["self"] : List Str).length ∧ rest.length ≤ sizeLine ∧ ∀ p, H p = none →
      spInitBX K T.C_Names T.C_BadPath (ws ++ [V.ref p]) (upd H p (.tup rest)) Q E) := by
    refine okStarX T.F_Names_init sc_Names_init (fun _ _ _ _ _ _ _ => rfl) (fun _ _ _ _ _ _ _ _ _ => rfl) fun cdv A outer s H vs Q E hr h => ?_
    obtain ⟨a, dx, p, xs, rfl, hA, hP1, h64, hx, way⟩ := h
    refine ⟨_, pss_cons (ps_for (passes_of rfl) rfl (pi_enumT (by rfl) T.z_enumerate (pa_cons (pv 1) pa_nil))
        (pg_tup rfl (pgs_cons (pg_name (i := 2) sc_Names_init.nd rfl (Or.inl rfl)) (pgs_cons (pg_name (i := 3) sc_Names_init.nd rfl (Or.inl rfl)) pgs_nil)))
        (pss_one (ps_if (pt_not (pt_val (pe_call GP hr rfl T.g_is_path T.F_is_path.kp T.b_is_path .nil pass0 (pa_cons (pv 3) pa_nil))))
          (pss_one (ps_raise rfl (takes_of rfl rfl rfl rfl) (pmk_err1 (T.e_BadPath P hP) hr rfl (pa_cons (pv 2) pa_nil)))) pss_nil)))
      (pss_one (ps_fld (pv 0) (pe_callTy call_tuple_of (by rfl) T.z_tuple (by decide +kernel) (pa_cons (pe_callB cr_sortedS (by rfl) T.z_sorted (by decide +kernel) (pa_cons
        (pe_callTy (call_list_dK rfl) (by rfl) T.z_list (by decide +kernel) (pa_cons (pe_dc (own := [("path", 3)]) (g := gName 3) (by rfl) sc_Names_init.nd (pi_tup (pv 1))
          (blkOk_by (own := [("path", 3)]) (N := n_Names_init) (sc := defScope s_Names_init) (by decide +kernel))
          (fun _ _ _ _ _ => pg_name (i := 3) sc_Names_init.nd rfl (Or.inl rfl)) (fun _ _ _ _ _ => pts_nil) (fun _ _ _ _ _ => pv 3) (fun _ _ _ _ _ => pe_bl)) pa_nil)) pa_nil)) pa_nil)) rfl)), ?_⟩
    refine ⟨_, rfl, p, xs, rfl, .inl (.inl hP1), ?_⟩
    refine for_it (walk_enumT (K := K) (a := p) (xs := xs)) (fun i σ H2 => ∃ v2 v3 : Option V, σ = [some (.ref a), some (.ref p), v2, v3] ∧ Same H H2 ∧ ∀ j y, j < i → xs[j]? = some y → ans isP y = true)
      ⟨none, none, rfl, Same.refl H, fun j y hj => absurd hj (Nat.not_lt_zero _)⟩ (fun i σ H2 _ ⟨_, _, _, s2, _⟩ => .inl (.inl (s2 _ _ hP1))) ?_ ?_
    · rintro i x σ H2 H3 hi ⟨v2, v3, rfl, s2, fst⟩ ⟨Tp, y1, y2, rfl, hT, rfl, e1, e2⟩
      cases e1
      have e2 : xs[i]? = some y2 := e2
      refine ⟨Tp, _, rfl, .inl (.inl upd_same), rfl, _, _, rfl, _, _, rfl, rfl, ?_⟩
      have s3 := s2.trans (same_new (o := .tup [.int (i : Nat), y2]) hT)
      refine ⟨_, rfl, _, rfl, (hx y2 (List.mem_of_getElem? e2)).same s3, fun H4 s4 => ⟨_, rfl, ?_⟩⟩
      cases ey : ans isP y2 with
      | true =>
        refine iteF ⟨_, _, rfl, s3.trans s4, fun j y hj hy => ?_⟩
        by_cases e : j = i
        · rw [e, e2] at hy
          rw [← Option.some.inj hy]; exact ey
        · exact fst j y (by omega) hy
      | false =>
        refine iteT ?_
        refine ⟨_, rfl, _, rfl, fun d hd => ?_⟩
        rcases way with ⟨zs, rfl, hz, _⟩ | ⟨k, ⟨x, hk1, hk2, hk3⟩, hE⟩
        · obtain ⟨z, hzi, rfl⟩ := get_strs e2
          have := (hz z (List.mem_of_getElem? hzi)).p
          rw [show ans isP (V.str z) = isP z from rfl, this] at ey
          cases ey
        · have ek : k = i := by
            rcases Nat.lt_trichotomy k i with h | h | h
            · rw [fst k x h hk1] at hk2; cases hk2
            · exact h
            · rw [hk3 i y2 h e2] at ey; cases ey
          subst ek
          exact hE d H4 (s3.trans s4) hd
    · rintro σ H2 ⟨v2, v3, rfl, s2, fst⟩
      rcases way with ⟨zs, rfl, hz, k⟩ | ⟨k, ⟨x, hk1, hk2, hk3⟩, hE⟩
      · rw [List.length_map] at h64
        refine ⟨_, rfl, p, rfl, ⟨_, .inl (.inl (s2 _ _ hP1))⟩, fun D hD => ?_⟩
        refine dc_tup (K := K) (a := p) (xs := zs.map V.str) (fun i H3 => ∃ ks : List Str, Same H2 H3 ∧ H3 D = some (.dK (trues ks)) ∧ ks.Nodup ∧ (∀ z, z ∈ ks ↔ z ∈ zs.take i) ∧ ks.length ≤ i)
          ⟨[], same_new hD, by rw [upd_same]; rfl, .nil, by simp, Nat.le_refl _⟩ (fun i H3 _ ⟨_, s3, _⟩ => .inl (.inl (s3 _ _ (s2 _ _ hP1)))) ?_ ?_
        · rintro i x H3 hx3 ⟨ks, s3, hD3, nd, mem, le⟩
          obtain ⟨z, hz, rfl⟩ := get_strs hx3
          have hi : i < zs.length := (List.getElem?_eq_some_iff.mp hz).1
          refine ⟨rfl, ?_⟩
          refine ⟨_, rfl, trues ks, Sum.inr z, rfl, hD3, ?_, ?_⟩
          · unfold trues
            rw [List.length_map, sizeLine_eq]; omega
          · refine ⟨if z ∈ ks then ks else ks ++ [z], same_in s3 hD, by rw [upd_same, put_true], ?_, fun y => ?_, ?_⟩
            · split
              · exact nd
              · rename_i hn
                exact List.nodup_append.mpr ⟨nd, by simp, fun u hu v hv => by rw [List.mem_singleton.mp hv]; exact fun e => hn (e ▸ hu)⟩
            · rw [takes hz, List.mem_append, List.mem_singleton, ← mem]
              split
              · rename_i hm
                exact ⟨.inl, fun q => q.elim id fun e => e ▸ hm⟩
              · rw [List.mem_append, List.mem_singleton]
            · split
              · omega
              · rw [List.length_append]; exact Nat.succ_le_succ le
        · rintro H3 ⟨ks, s3, hD3, nd, mem, le⟩
          rw [List.length_map] at mem le
          rw [List.take_length] at mem
          refine ⟨D, trues ks, rfl, hD3, fun q hq => ?_⟩
          have eq1 : (trues ks).map (fun kv => kV kv.1) = ks.map V.str := by
            unfold trues
            rw [List.map_map]; rfl
          rw [eq1]
          refine ⟨q, ks, rfl, .inl (.inl upd_same), by omega, fun ys r hys hso hr2 => ?_⟩
          refine ⟨r, ys.map V.str, rfl, .inl ⟨.inl (.inl upd_same), fun l hl => ?_⟩⟩
          have s4 := ((s2.trans s3).trans (same_new (o := .lst (ks.map V.str)) hq)).trans (same_new (o := .lst (ys.map V.str)) hr2)
          have s5 := s4.trans (same_new (o := .tup (ys.map V.str)) hl)
          refine ⟨_, rfl, a, T.C_Names, dx, [], rfl, s5 _ _ hA, T.cl_Names, T.at_Names_paths, by decide, ?_⟩
          refine k l ys _ s5 upd_same (ris_of ys hso (hys.nodup_iff.mpr nd)) (fun z => ?_) ?_
          · rw [hys.mem_iff, mem]
          · rw [hys.length_eq]; exact le
      · have hlt := (List.getElem?_eq_some_iff.mp hk1).1
        rw [fst k x hlt hk1] at hk2
        cases hk2
  intro A outer s H us vs Q E hr e0 r h
  obtain ⟨a, dx, xs, rfl, hA, h64, hx, way⟩ := h
  refine R A outer s H us _ Q E hr e0 r ⟨[.ref a], xs, rfl, rfl, ?_, fun p hp => ?_⟩
  · rw [sizeLine_eq]; omega
  · have s1 : Same H (upd H p (.tup xs)) := same_new hp
    refine ⟨a, dx, p, xs, rfl, s1 _ _ hA, upd_same, h64, fun x hm => (hx x hm).same s1, ?_⟩
    rcases way with ⟨zs, e, hz, k⟩ | ⟨k, fb, hE⟩
    · exact .inl ⟨zs, e, hz, fun t ys H1 sm => k t ys H1 (s1.trans sm)⟩
    · exact .inr ⟨k, fb, fun d H1 sm => hE d H1 (s1.trans sm)⟩
end
end Sn

/-! ## The class Names where values may be no paths: making, len, bool, in, == -/
namespace Sn
open PySem PySem.Spec PyProof.Rows L2 TL
/-- Names(..) of values: a set, or BadPath -/
def MadeWay (C CB : Addr) (H : Hp) (xs : List V) (Q : VK) (E : XK) : Prop :=
  (∃ zs : List Str, xs = zs.map V.str ∧ (∀ z ∈ zs, Pth z) ∧ ∀ (x : Addr) (ys : List Str) (H2 : Hp), Nm C H2 x ys → Same H H2 → (∀ z, z ∈ ys ↔ z ∈ zs) → ys.length ≤ zs.length → Q (.ref x) H2) ∨
  (∃ k : Nat, FirstBad xs k ∧ ∀ (d : Addr) (H1 : Hp), Same H H1 → H1 d = none → E (.ref CB) (some d) (upd H1 d (.xd [("k", .int k)])))
theorem madeX {K : PySem.W.Frag} {C CB : Addr} {H : Hp} {xs : List V} {Q : VK} {E : XK} (hl : xs.length < 64) (ha : ∀ x ∈ xs, Arg K H x) (way : MadeWay C CB H xs Q E) :
    ∀ x dx, H x = none → H dx = none → dx ≠ x → spInitX K C CB (.ref x :: xs) (upd (upd H dx (.own x)) x (.ins C dx [])) (fun v H2 => v = .non ∧ Q (.ref x) H2) E := by
  intro x dx hx hd ne
  have s0 : Same H (upd (upd H dx (.own x)) x (.ins C dx [])) := fun b u e => by
    rw [upd_ne (ne_of_none e hx), upd_ne (ne_of_none e hd)]; exact e
  refine ⟨x, dx, xs, rfl, upd_same, hl, fun y hy => (ha y hy).same s0, ?_⟩
  rcases way with ⟨zs, e, hz, k⟩ | ⟨k, fb, hE⟩
  · refine .inl ⟨zs, e, hz, fun t ys H1 s ht r m le => ⟨rfl, ?_⟩⟩
    have ex : H1 x = some (.ins C dx []) := s _ _ upd_same
    have tx : t ≠ x := fun e => by rw [e, ex] at ht; cases ht
    refine k x ys _ ⟨⟨dx, t, upd_same, by rw [upd_ne tx]; exact ht⟩, r, fun z hz' => hz z ((m z).mp hz')⟩ (fun b u e => ?_) m le
    rw [upd_ne (ne_of_none e hx)]
    exact s _ _ (s0 _ _ e)
  · exact .inr ⟨k, fb, fun d H1 s hd1 => hE d H1 (s0.trans s) hd1⟩
section
variable {P : Program} {w : World} {K : PySem.W.Frag} {mg : Str → Option Value} {base : Heap}
theorem ty_names (T : Txt K mg) {H : Hp} {a : Addr} {ys : List Str} (h : Nm T.C_Names H a ys) : TyX K H (.ref a) (.ref T.C_Names) := by
  obtain ⟨⟨dx, t, h1, h2⟩, r, p⟩ := h
  exact .base (.ins h1 T.cl_Names T.ih_Names T.in_Names T.it_Names T.im_Names)
theorem kit_self (C : Addr) : PySem.W.kitOne K (.ref C) (.ref C) = some true := by
  unfold PySem.W.kitOne
  exact if_pos (by simp)
def spLenN (C : Addr) : Sp := fun vs H Q _ => ∃ (a : Addr) (ys : List Str), vs = [.ref a] ∧ Nm C H a ys ∧ ys.length ≤ 1000 ∧ Q (.int ys.length) H
theorem ok_lenN (T : Txt K mg) : FnOk P w K mg base CX0 1 T.f_Names_len T.fd_Names_len ["self"] (spLenN T.C_Names) := by
  refine T.F_Names_len.ok sc_Names_len (fun vs H Q E h => ?_) (fun cdv A outer s H vs Q E hr h => ?_)
  · obtain ⟨a, ys, rfl, _⟩ := h
    rfl
  · obtain ⟨a, ys, rfl, N, hl, k⟩ := h
    refine ⟨_, (pss_one (ps_ret (pe_callB call_len (by rfl) T.z_len (by decide +kernel) (pa_cons (pe_fldK (K := K) (pv 0)) pa_nil)))), ?_⟩
    obtain ⟨dx, t, h1, ht⟩ := N.at_
    exact ⟨_, rfl, a, _, dx, _, _, rfl, h1, T.cl_Names, T.at_Names_paths, rfl, _, ys.length, rfl, .inr ⟨_, .inl (.inl ht), (by rw [List.length_map])⟩, k⟩
/-- value in names -/
def spHas (K : PySem.W.Frag) (C : Addr) : Sp := fun vs H Q _ => ∃ (a : Addr) (ys : List Str) (v : V), vs = [.ref a, v] ∧ Nm C H a ys ∧ Arg K H v ∧ Q (.bl (ans (fun z => decide (z ∈ ys)) v)) H
theorem ok_has (T : Txt K mg) : FnOk P w K mg base CX0 1 T.f_Names_contains T.fd_Names_contains ["self", "value"] (spHas K T.C_Names) := by
  refine T.F_Names_contains.ok sc_Names_contains (fun vs H Q E h => ?_) (fun cdv A outer s H vs Q E hr h => ?_)
  · obtain ⟨a, ys, v, rfl, _⟩ := h
    rfl
  · obtain ⟨a, ys, v, rfl, N, hv, k⟩ := h
    refine ⟨_, (pss_one (ps_ret (pe_and (pe_callB call_isi (by rfl) T.z_isinstance (by decide +kernel) (pa_cons (pv 1) (pa_cons (pe_bltn (v := .ty "str") (by rfl) T.z_str (by decide +kernel) rfl) pa_nil))) (pe_one (pe_cmpR (op_in_seqK (K := K)) (pv 1) (pe_fldK (K := K) (pv 0)) (by rfl)))))), ?_⟩
    rcases hv with ⟨z, rfl, hz⟩ | hn
    · refine ⟨_, rfl, _, .ty "str", .type "str", .type "str", true, rfl, .ty "str", .base (.str z), kit_ty (by decide +kernel), true, rfl, iteT ?_⟩
      obtain ⟨dx, t, h1, ht⟩ := N.at_
      refine ⟨_, rfl, _, rfl, a, _, dx, _, _, rfl, h1, T.cl_Names, T.at_Names_paths, rfl, t, _, rfl, .inr (.inl (.inl ht)), rfl, flat_strs _, ?_⟩
      rw [inV_strs]
      exact k
    · obtain ⟨t, ty, hk⟩ := id hn
      refine ⟨_, rfl, _, .ty "str", t, .type "str", false, rfl, .ty "str", ty, hk, false, rfl, iteF ?_⟩
      rw [hn.ans] at k
      exact k
def spBoolN (C : Addr) : Sp := fun vs H Q _ => ∃ (a : Addr) (ys : List Str), vs = [.ref a] ∧ Nm C H a ys ∧ Q (.bl (decide (ys ≠ []))) H
theorem ok_boolN (T : Txt K mg) : FnOk P w K mg base CX0 1 T.f_Names_bool T.fd_Names_bool ["self"] (spBoolN T.C_Names) := by
  refine T.F_Names_bool.ok sc_Names_bool (fun vs H Q E h => ?_) (fun cdv A outer s H vs Q E hr h => ?_)
  · obtain ⟨a, ys, rfl, _⟩ := h
    rfl
  · obtain ⟨a, ys, rfl, N, k⟩ := h
    refine ⟨_, (pss_one (ps_ret (pe_cmpR op_gt (pe_callB call_len (by rfl) T.z_len (by decide +kernel) (pa_cons (pe_fldK (K := K) (pv 0)) pa_nil)) pe_int (nomark _)))), ?_⟩
    obtain ⟨dx, t, h1, ht⟩ := N.at_
    refine ⟨_, rfl, a, _, dx, _, _, rfl, h1, T.cl_Names, T.at_Names_paths, rfl, _, ys.length, rfl, .inr ⟨_, .inl (.inl ht), (by rw [List.length_map])⟩, _, _, rfl, rfl, ?_⟩
    have e : decide ((ys.length : Int) > 0) = decide (ys ≠ []) := by
      cases ys with
      | nil => rfl
      | cons z r => simp
    rw [← e] at k
    exact k
/-- made == value -/
def spEqV (K : PySem.W.Frag) (C : Addr) : Sp := fun vs H Q _ => ∃ (a : Addr) (ys : List Str) (v : V), vs = [.ref a, v] ∧ Nm C H a ys ∧
  ((∃ b zs, v = .ref b ∧ Nm C H b zs ∧ Q (.bl (decide (ys = zs))) H) ∨ (∃ Ty, TyB K H v Ty ∧ Q (.bl false) H))
theorem kit_no (T : Txt K mg) {H : Hp} {v : V} {Ty : String} (h : TyB K H v Ty) : PySem.W.kitOne K (.type Ty) (.ref T.C_Names) = some false := by
  refine kit_not ?_ T.ty_Names (h.sub _)
  obtain ⟨cd, hc, _⟩ := PySem.W.any_some T.cl_Names.hd
  rw [hc]; rfl
theorem ok_eqV (T : Txt K mg) : FnOk P w K mg base CX0 1 T.f_Names_eq T.fd_Names_eq ["self", "other"] (spEqV K T.C_Names) := by
  refine T.F_Names_eq.ok sc_Names_eq (fun vs H Q E h => ?_) (fun cdv A outer s H vs Q E hr h => ?_)
  · obtain ⟨a, ys, v, rfl, _⟩ := h
    rfl
  · obtain ⟨a, ys, v, rfl, N, k⟩ := h
    refine ⟨_, (pss_one (ps_ret (pe_and (pe_callB call_isi (by rfl) T.z_isinstance (by decide +kernel) (pa_cons (pv 1) (pa_cons (pe_glob (v := .ref T.C_Names) rfl T.gC_Names rfl) pa_nil))) (pe_one (pe_cmpR (op_eqDK (K := K) hr.units) (pe_fldK (K := K) (pv 0)) (pe_fldK (K := K) (pv 1)) (nomark _)))))), ?_⟩
    rcases k with ⟨b, zs, rfl, M, k⟩ | ⟨Ty, ht, k⟩
    · refine ⟨_, rfl, _, .ref T.C_Names, .ref T.C_Names, .ref T.C_Names, true, rfl, .own _, ty_names T M, kit_self _, true, rfl, iteT ?_⟩
      obtain ⟨dx, t, h1, ht⟩ := N.at_
      obtain ⟨ex, u, g1, hu⟩ := M.at_
      refine ⟨_, rfl, a, _, dx, _, _, rfl, h1, T.cl_Names, T.at_Names_paths, rfl, _, rfl, b, _, ex, _, _, rfl, g1, T.cl_Names, T.at_Names_paths, rfl, ?_⟩
      refine ⟨_, _, .tup (.inl (.inl ht)) (dp_strs ys), .tup (.inl (.inl hu)) (dp_strs zs), shaped_tstrs _ N.asc, shaped_tstrs _ M.asc, ?_⟩
      rw [eqv_tups]
      exact k
    · exact ⟨_, rfl, _, .ref T.C_Names, _, .ref T.C_Names, false, rfl, .own _, ht.ty, kit_no T ht, false, rfl, iteF k⟩
end
end Sn

/-! ## _law_names: different names, drawn -/
namespace Sn
open PySem PySem.Spec PyProof.Rows L2 TL
theorem Dr.upd {H : Hp} {d g c L : Addr} {m : Nat} {o : HO} (D : Dr H d g c m) (h : L ≠ d ∧ L ≠ g ∧ L ≠ c) : Dr (L2.upd H L o) d g c m := by
  obtain ⟨⟨l, t, h0, h1, h2⟩, ⟨a, h3⟩, ⟨b, h4⟩, h5⟩ := D
  exact ⟨⟨l, t, h0, h1, by rw [upd_ne h.1.symm]; exact h2⟩, ⟨a, by rw [upd_ne h.2.1.symm]; exact h3⟩, ⟨b, by rw [upd_ne h.2.2.symm]; exact h4⟩, h5⟩
theorem Mv.put {d g L : Addr} {H H2 : Hp} {o : HO} (m : Mv d g H H2) (h : H L = none) : Mv d g H (L2.upd H2 L o) := fun b x h1 h2 e => by
  rw [upd_ne (ne_of_none e h)]
  exact m _ _ h1 h2 e
theorem num_log : ∀ j ∈ List.range 30, ((10 : Int) + (j : Int)).natAbs.log2 < 1920 := by decide +kernel
section
variable {P : Program} {w : World} {K : PySem.W.Frag} {mg : Str → Option Value} {base : Heap}
/-- n drawn names, all different -/
def spNames : Sp := fun vs H Q _ => ∃ (d g c : Addr) (m n : Nat), vs = [.ref d, .int n] ∧ Dr H d g c m ∧ m + 40 * n ≤ 1000000000 ∧ n < 30 ∧
  ∀ (q : Addr) (l : List Str) (H' : Hp), H q = none → l.length = n → l.Nodup → (∀ z ∈ l, isN z = true) → H' q = some (.lst (l.map V.str)) → Dr H' d g c (m + 40 * n) → Mv d g H H' → Q (.ref q) H'
theorem ok_names (T : Txt K mg) : FnOk P w K mg base CX0 6 T.f_law_names T.fd_law_names ["_law_state", "_law_many"] spNames := by
  refine T.F_law_names.ok sc_law_names (fun vs H Q E h => ?_) (fun cdv A outer s H vs Q E hr h => ?_)
  · obtain ⟨d, g, c, m, n, rfl, _⟩ := h
    rfl
  · obtain ⟨d, g, c, m, n, rfl, D, hm, hn, k⟩ := h
    refine ⟨_, (pss_cons (ps_set (i := 2) sc_law_names.nd rfl (Or.inr rfl) (pe_lst pa_nil))
      (pss_cons (ps_for PassesOwn.never rfl (pi_range1 (by rfl) T.z_range (pa_cons (pv 1) pa_nil)) (pg_name (i := 3) sc_law_names.nd rfl (Or.inl rfl))
        (pss_cons (ps_set (i := 4) sc_law_names.nd rfl (Or.inr rfl) (pe_call (ok_any_name T) (hr.mono (by decide)) rfl T.g_law_any_name T.F_law_any_name.kp T.b_law_any_name .nil pass0 (pa_cons (pv 0) pa_nil)))
      (pss_cons (ps_set (i := 5) sc_law_names.nd rfl (Or.inl rfl) (pe_op op_cat (pe_lst (pa_cons (pv 4) pa_nil)) (pe_lc (own := [("_law_k", 6)]) (g := gName 6) (by rfl) sc_law_names.nd (pi_range2 (by rfl) T.z_range (pa_cons pe_int (pa_cons pe_int pa_nil))) (blkOk_by (own := [("_law_k", 6)]) (N := n_law_names) (sc := defScope s_law_names) (by decide +kernel)) (fun _ _ _ _ _ => (pg_name (i := 6) sc_law_names.nd rfl (Or.inl rfl))) (fun _ _ _ _ _ => pts_nil) (fun _ _ _ _ _ => (pe_op op_add_str (pe_slice sl_str (pv 4) po_none (po_some pe_int)) (pe_callTy call_str_int (by rfl) T.z_str (by decide +kernel) (pa_cons (pv 6) pa_nil)))))))
      (pss_one (ps_expr (pe_bm PySem.F.plainAttrs_list PySem.F.slot_list_append PySem.F.type_list_append mt_append (pv 2) (pa_cons (pe_ix (ix_listK (K := K)) (pe_lc (own := [("_law_here", 7)]) (g := gName 7) (by rfl) sc_law_names.nd (pi_list (pv 5)) (blkOk_by (own := [("_law_here", 7)]) (N := n_law_names) (sc := defScope s_law_names) (by decide +kernel)) (fun _ _ _ _ _ => (pg_name (i := 7) sc_law_names.nd rfl (Or.inl rfl))) (fun _ _ _ _ _ => (pts_one (pt_cmpR (op_notIn_seqK (K := K)) (pv 7) (pv 2) (by rfl)))) (fun _ _ _ _ _ => (pv 7))) pe_int (fun _ _ => rfl)) pa_nil)))))))
      (pss_one (ps_ret (pv 2))))), ?_⟩
    refine ⟨(by show 0 ≤ sizeLine; decide), fun L hL => ?_⟩
    have nL := dr_new D hL
    refine ⟨_, rfl, _, rfl, by omega, by omega, ?_⟩
    refine for_range (lo := 0) (n := n) (fun i σ H2 => ∃ (l : List Str) (v3 v4 v5 v6 v7 : Option V), σ = [some (.ref d), some (.int n), some (.ref L), v3, v4, v5, v6, v7] ∧ l.length = i ∧ l.Nodup ∧ (∀ z ∈ l, isN z = true) ∧
        H2 L = some (.lst (l.map V.str)) ∧ Dr H2 d g c (m + 40 * i) ∧ Mv d g H H2)
      ⟨[], none, none, none, none, none, rfl, rfl, .nil, (fun z hz => nomatch hz), upd_same, D.same (same_new hL), Mv.same (same_new hL)⟩ ?_ ?_
    · rintro i σ H2 hi ⟨l, v3, v4, v5, v6, v7, rfl, hl, nd, hN, hL2, D2, mv2⟩
      refine ⟨_, rfl, d, g, c, _, rfl, D2, by omega, fun z H3 hz D3 mv3 => ?_⟩
      have hL3 := mv3 _ _ nL.1 nL.2.1 hL2
      have hz8 := isN_len hz
      refine ⟨_, rfl, (by show 1 ≤ sizeLine; decide), fun p1 h1 => ?_⟩
      refine ⟨_, _, rfl, ⟨by decide, by decide, by decide, by decide⟩, fun p2 h2 => ?_⟩
      refine lc_range (lo := 10) (n := 30) (fun j H4 => H4 = upd (upd H3 p1 (.lst [.str z])) p2 (.lst (((List.range j).map (cand z)).map V.str))) rfl ?_ ?_
      · rintro j H4 hj rfl
        obtain ⟨e2, _, _⟩ := num_two j (List.mem_range.mpr hj)
        refine ⟨rfl, ?_⟩
        refine ⟨_, rfl, _, rfl, z, rfl, by rw [sizeLine_eq]; omega, _, rfl, _, rfl, num_log j (List.mem_range.mpr hj), _, _, rfl, rfl, ?_, ?_⟩
        · have q := cutS_length z none (some 6)
          have e3 : (numS j).length = 2 := by rw [len_tl]; exact e2
          show _ + (numS j).length ≤ sizeLine
          rw [e3, sizeLine_eq]; omega
        · refine ⟨_, upd_same, by rw [List.length_map, List.length_map, List.length_range, sizeLine_eq]; omega, ?_⟩
          rw [upd_upd, List.range_succ, List.map_append, List.map_append]; rfl
      · rintro H4 rfl
        have ne21 : p1 ≠ p2 := fun e => by rw [e, upd_same] at h2; cases h2
        refine ⟨p1, p2, _, _, rfl, rfl, by rw [upd_ne ne21]; exact upd_same, upd_same, by rw [List.length_map, List.length_map, List.length_range, sizeLine_eq]; show 1 + 30 ≤ 16777216; decide, fun p3 h3 => ?_⟩
        have ec : [V.str z] ++ ((List.range 30).map (cand z)).map V.str = (cands z).map V.str := rfl
        rw [ec]
        have S5 : Same H3 (upd (upd (upd H3 p1 (.lst [.str z])) p2 (.lst (((List.range 30).map (cand z)).map V.str))) p3 (.lst ((cands z).map V.str))) :=
          ((same_new h1).trans (same_new h2)).trans (same_new h3)
        generalize eH5 : upd (upd (upd H3 p1 (.lst [.str z])) p2 (.lst (((List.range 30).map (cand z)).map V.str))) p3 (.lst ((cands z).map V.str)) = H5 at S5
        have hp3 : H5 p3 = some (.lst ((cands z).map V.str)) := by rw [← eH5]; exact upd_same
        have hL5 := S5 _ _ hL3
        refine ⟨_, rfl, .inl ⟨rfl, _, .inl (.inl hL5)⟩, _, rfl, p3, rfl, ⟨_, .inl (.inl hp3)⟩, fun p4 h4 => ?_⟩
        refine lc_list (K := K) (a := p3) (xs := (cands z).map V.str) (fun j H6 => H6 = upd H5 p4 (.lst ((((cands z).take j).filter fun y => !decide (y ∈ l)).map V.str)))
          rfl (fun j H6 _ e => by rw [e]; exact .inl (.inl (same_new h4 _ _ hp3))) ?_ ?_
        · rintro j x H6 hx rfl
          obtain ⟨y, hy, rfl⟩ := get_strs hx
          refine ⟨rfl, ?_⟩
          refine ⟨_, rfl, _, rfl, L, _, rfl, .inl (.inl (.inl (same_new h4 _ _ hL5))), rfl, flat_strs _, ?_⟩
          rw [inV_strs]
          refine ⟨_, rfl, ite2 (fun e => ?_) fun e => ?_⟩
          · refine ⟨_, rfl, _, upd_same, small1000 ?_, ?_⟩
            · rw [List.length_map]
              have := fl_len (l := cands z) j (fun y => !decide (y ∈ l))
              have e31 : (cands z).length = 31 := by unfold cands; rw [List.length_cons, List.length_map, List.length_range]
              omega
            · rw [upd_upd, fl_take _ hy, if_pos (show (!decide (y ∈ l)) = true from e), List.map_append]; rfl
          · show upd H5 p4 _ = _
            rw [fl_take _ hy, if_neg (show ¬ (!decide (y ∈ l)) = true from e), List.append_nil]
        · rintro H6 rfl
          rw [List.length_map, List.take_length]
          have hne := cand_new (z := z) (l := l) (by omega)
          match ef : (cands z).filter (fun y => !decide (y ∈ l)) with
          | [] => exact absurd ef hne
          | y :: r =>
            have hy : y ∈ (cands z).filter (fun y => !decide (y ∈ l)) := by rw [ef]; exact List.mem_cons.mpr (.inl rfl)
            have hy2 := List.mem_filter.mp hy
            have hyl : y ∉ l := by simpa using hy2.2
            refine ⟨p4, _, _, .str y, rfl, rfl, .inl (.inl upd_same), atI_nat (j := 0) rfl, ?_⟩
            have S6 : Same H3 (upd H5 p4 (.lst ((y :: r).map V.str))) := S5.trans (same_new h4)
            refine ⟨L, _, _, rfl, rfl, S6 _ _ hL3, by rw [List.length_map, sizeLine_eq]; omega, ?_⟩
            refine ⟨l ++ [y], _, _, _, _, _, rfl, by rw [List.length_append, hl]; rfl, ?_, ?_, ?_, ?_, ?_⟩
            · exact List.nodup_append.mpr ⟨nd, by simp, fun u hu v hv => by rw [List.mem_singleton.mp hv]; exact fun e => hyl (e ▸ hu)⟩
            · intro x hx
              rcases List.mem_append.mp hx with hx | hx
              · exact hN x hx
              · rw [List.mem_singleton.mp hx]; exact cands_ok hz y hy2.1
            · rw [upd_same, List.map_append]; rfl
            · exact ((D3.same S6).upd nL).mono (by omega)
            · exact ((mv2.trans mv3).trans (Mv.same S6)).put hL
    · rintro σ H2 ⟨l, v3, v4, v5, v6, v7, rfl, hl, nd, hN, hL2, D2, mv2⟩
      exact ⟨_, rfl, k L l H2 hL hl nd hN hL2 D2 mv2⟩
end
end Sn

/-! ## Comprehensions that pick out of a list of texts -/
namespace Sn
open PySem PySem.Spec PyProof.Rows L2 TL
section
variable {K : PySem.W.Frag}
theorem in_reads {H : Hp} {f : Addr} {l : List Str} {z : Str} {Q : VK} (h : H f = some (.lst (l.map V.str))) (q : Q (.bl (decide (z ∈ l))) H) : rIn K false (.str z) (.ref f) H Q := by
  refine ⟨f, _, rfl, .inl (.inl (.inl h)), rfl, flat_strs _, ?_⟩
  rw [inV_strs]
  exact q
theorem notin_reads {H : Hp} {f : Addr} {l : List Str} {z : Str} {Q : VK} (h : H f = some (.lst (l.map V.str))) (q : Q (.bl (!decide (z ∈ l))) H) : rIn K true (.str z) (.ref f) H Q := by
  refine ⟨f, _, rfl, .inl (.inl (.inl h)), rfl, flat_strs _, ?_⟩
  rw [inV_strs]
  exact q
/-- [z for z in ev if p z], ev a list of texts -/
theorem lc_fil {a D : Addr} {ev : List Str} {i : Nat} {vs : List Nat} {tt : TT} {σ : L2.St} {H : Hp} {Qd : Hp → Prop} (p : Str → Bool) (hl : ev.length ≤ 1000) (he : H a = some (.lst (ev.map V.str))) (hD : H D = none)
    (hi : ∀ v, ((wipe σ vs).set i v)[i]? = some v) (hw : ∀ v, wipe ((wipe σ vs).set i v) vs = wipe σ vs)
    (ht : ∀ z ∈ ev, ∀ (acc : List V) (R : Bool → Hp → Prop), R (p z) (upd H D (.lst acc)) → tt ((wipe σ vs).set i (some (.str z))) (upd H D (.lst acc)) R)
    (hd : Qd (upd H D (.lst ((ev.filter p).map V.str)))) :
    ∃ W : Nat → Nat → Hp → Prop, (∃ m, W 0 m (upd H D (.lst []))) ∧ ∀ j m H1, W j m H1 →
      ((Itl K a).stop j H1 ∧ Qd H1) ∨ ((Itl K a).go j H1 ∧ ∃ Nx : Hp → Prop, (∀ H', Nx H' → ∃ m', m' < m ∧ W (j + 1) m' H') ∧ ∀ x H', (Itl K a).yld j H1 x H' → gName i x (wipe σ vs) H' fun σ2 H2 => wipe σ2 vs = wipe σ vs ∧ tt σ2 H2 fun b H3 =>
        if b = true then tVar i σ2 H3 fun y H4 => ∃ acc, H4 D = some (.lst acc) ∧ acc.length < sizeLine ∧ Nx (upd H4 D (.lst (acc ++ [y]))) else Nx H3) := by
  refine lc_list (K := K) (a := a) (xs := ev.map V.str) (fun j H1 => H1 = upd H D (.lst (((ev.take j).filter p).map V.str))) rfl (fun j H1 _ q => by rw [q]; exact .inl (.inl (same_new hD _ _ he))) ?_ ?_
  · rintro j x H1 hx rfl
    obtain ⟨z, hz, rfl⟩ := get_strs hx
    refine ⟨hw _, ht z (List.mem_of_getElem? hz) _ _ ?_⟩
    by_cases e : p z = true
    · rw [if_pos e]
      refine ⟨_, hi _, _, upd_same, small1000 ?_, ?_⟩
      · rw [List.length_map]
        have := fl_len (l := ev) j p
        omega
      · rw [upd_upd, fl_take _ hz, if_pos e, List.map_append]; rfl
    · rw [if_neg e, fl_take _ hz, if_neg e, List.append_nil]
  · rintro H1 rfl
    rw [List.length_map, List.take_length]
    exact hd
end
/-- [z for z in ev if p z], where the test makes new objects -/
theorem lc_filS {K : PySem.W.Frag} {a D : Addr} {ev : List Str} {i : Nat} {vs : List Nat} {tt : TT} {σ : L2.St} {H : Hp} {Qd : Hp → Prop} (p : Str → Bool) (hl : ev.length ≤ 1000) (he : H a = some (.lst (ev.map V.str))) (hD : H D = none)
    (hi : ∀ v, ((wipe σ vs).set i v)[i]? = some v) (hw : ∀ v, wipe ((wipe σ vs).set i v) vs = wipe σ vs)
    (ht : ∀ z ∈ ev, ∀ (H1 : Hp) (R : Bool → Hp → Prop), Same H H1 → (∀ H2, Same H1 H2 → R (p z) H2) → tt ((wipe σ vs).set i (some (.str z))) H1 R)
    (hd : ∀ H1, Same H H1 → H1 D = some (.lst ((ev.filter p).map V.str)) → Qd H1) :
    ∃ W : Nat → Nat → Hp → Prop, (∃ m, W 0 m (upd H D (.lst []))) ∧ ∀ j m H1, W j m H1 →
      ((Itl K a).stop j H1 ∧ Qd H1) ∨ ((Itl K a).go j H1 ∧ ∃ Nx : Hp → Prop, (∀ H', Nx H' → ∃ m', m' < m ∧ W (j + 1) m' H') ∧ ∀ x H', (Itl K a).yld j H1 x H' → gName i x (wipe σ vs) H' fun σ2 H2 => wipe σ2 vs = wipe σ vs ∧ tt σ2 H2 fun b H3 =>
        if b = true then tVar i σ2 H3 fun y H4 => ∃ acc, H4 D = some (.lst acc) ∧ acc.length < sizeLine ∧ Nx (upd H4 D (.lst (acc ++ [y]))) else Nx H3) := by
  refine lc_list (K := K) (a := a) (xs := ev.map V.str) (fun j H1 => Same H H1 ∧ H1 D = some (.lst (((ev.take j).filter p).map V.str))) ⟨same_new hD, upd_same⟩ (fun j H1 _ q => .inl (.inl (q.1 _ _ he))) ?_ ?_
  · rintro j x H1 hx ⟨s1, hD1⟩
    obtain ⟨z, hz, rfl⟩ := get_strs hx
    refine ⟨hw _, ht z (List.mem_of_getElem? hz) _ _ s1 fun H2 s2 => ?_⟩
    by_cases e : p z = true
    · rw [if_pos e]
      refine ⟨_, hi _, _, s2 _ _ hD1, small1000 ?_, same_in (s1.trans s2) hD, ?_⟩
      · rw [List.length_map]
        have := fl_len (l := ev) j p
        omega
      · rw [upd_same, fl_take _ hz, if_pos e, List.map_append]; rfl
    · rw [if_neg e, fl_take _ hz, if_neg e, List.append_nil]
      exact ⟨s1.trans s2, s2 _ _ hD1⟩
  · rintro H1 ⟨s1, hD1⟩
    rw [List.length_map, List.take_length] at hD1
    exact hd H1 s1 hD1
theorem gD {l : List Str} {k : Nat} (h : k < l.length) : l.getD k "" = l[k] := by
  rw [List.getD_eq_getElem?_getD, List.getElem?_eq_getElem h]; rfl
theorem get_nm {l : List Str} {k : Nat} (h : k < l.length) : (l.map V.str)[k]? = some (.str (l.getD k "")) := by
  rw [List.getElem?_map, List.getElem?_eq_getElem h, gD h]; rfl
theorem split_two {a b : Str} (ha : isN a = true) (hb : isN b = true) : Txt.split (a ++ "." ++ b) dotS = [a, b] := by
  have na : 46 ∉ tl a := fun h => dot_no (isN_sgn ha _ h)
  have nb : 46 ∉ tl b := fun h => dot_no (isN_sgn hb _ h)
  have e : tl (a ++ "." ++ b) = tl a ++ 46 :: tl b := by
    rw [tl_append, tl_append, show tl ("." : Str) = [46] by decide +kernel, List.append_assoc]; rfl
  apply map_tl_inj
  rw [split_one e na, spl_last1 (s := 46) (S := []) (p := tl b) (acc := []) nb]; rfl
theorem getD_mem {l : List Str} {k : Nat} (h : k < l.length) : l.getD k "" ∈ l := by
  rw [gD h]
  exact List.getElem_mem h
end Sn

/-! ## law_k03: _law_path, _law_set, _law_refused -/
namespace Sn
open PySem PySem.Spec PyProof.Rows L2 TL
section
variable {P : Program} {w : World} {K : PySem.W.Frag} {mg : Str → Option Value} {base : Heap}
/-- a path of two of these names -/
def spPathD : Sp := fun vs H Q _ => ∃ (d g c q : Addr) (m : Nat) (l : List Str), vs = [.ref d, .ref q] ∧ Dr H d g c m ∧ m + 2 ≤ 1000000000 ∧ H q = some (.lst (l.map V.str)) ∧ q ≠ d ∧ q ≠ g ∧ 0 < l.length ∧ l.length ≤ 1000 ∧ (∀ z ∈ l, isN z = true) ∧
  ∀ (a b : Str) (H' : Hp), a ∈ l → b ∈ l → Dr H' d g c (m + 2) → Mv d g H H' → Q (.str (a ++ "." ++ b)) H'
theorem ok_lpath (T : Txt K mg) : FnOk P w K mg base CX0 4 T.f_law_path T.fd_law_path ["_law_state", "_law_names_here"] spPathD := by
  refine T.F_law_path.ok sc_law_path (fun vs H Q E h => ?_) (fun cdv A outer s H vs Q E hr h => ?_)
  · obtain ⟨d, g, c, q, m, l, rfl, _⟩ := h
    rfl
  · obtain ⟨d, g, c, q, m, l, rfl, D, hm, hq, nd, ng, h0, h1, hN, k⟩ := h
    refine ⟨_, (pss_one (ps_ret (pe_op op_add_str (pe_op op_add_str (pe_call (ok_pick T) (hr.mono (by decide)) rfl T.g_law_pick T.F_law_pick.kp T.b_law_pick .nil pass0 (pa_cons (pv 0) (pa_cons (pv 1) pa_nil))) pe_str) (pe_call (ok_pick T) (hr.mono (by decide)) rfl T.g_law_pick T.F_law_pick.kp T.b_law_pick .nil pass0 (pa_cons (pv 0) (pa_cons (pv 1) pa_nil)))))), ?_⟩
    refine ⟨_, rfl, _, rfl, d, g, c, _, D, by omega, .inr ⟨q, _, rfl, hq, ng, by rw [List.length_map]; exact h0, by rw [List.length_map]; exact h1, fun x H1 hx D1 mv1 => ?_⟩⟩
    obtain ⟨a, ha, rfl⟩ := List.mem_map.mp hx
    have a8 := isN_len (hN a ha)
    have e1 : ("." : Str).length = 1 := by decide +kernel
    refine ⟨_, _, rfl, rfl, by rw [e1, sizeLine_eq]; omega, _, rfl, _, rfl, d, g, c, _, D1, by omega, .inr ⟨q, _, rfl, mv1 _ _ nd ng hq, ng, by rw [List.length_map]; exact h0, by rw [List.length_map]; exact h1, fun x H2 hx D2 mv2 => ?_⟩⟩
    obtain ⟨b, hb, rfl⟩ := List.mem_map.mp hx
    have b8 := isN_len (hN b hb)
    refine ⟨_, _, rfl, rfl, ?_, k a b H2 ha hb D2 (mv1.trans mv2)⟩
    have e2 : (a ++ ("." : Str)).length = a.length + 1 := by rw [len_tl, tl_append, List.length_append, ← len_tl, ← len_tl, e1]
    rw [e2, sizeLine_eq]; omega
/-- Names of at most four values that stand in a list -/
def spSetX (K : PySem.W.Frag) (C CB : Addr) : Sp := fun vs H Q E => ∃ (q : Addr) (xs : List V), vs = [.ref q] ∧ H q = some (.lst xs) ∧ xs.length ≤ 4 ∧ (∀ x ∈ xs, Arg K H x) ∧ MadeWay C CB H xs Q E
theorem ok_setX (T : Txt K mg) (hP : PrOk P) : FnOk P w K mg base (L2.CX P w) 6 T.f_law_set T.fd_law_set ["_law_some"] (spSetX K T.C_Names T.C_BadPath) := by
  refine T.F_law_set.okX sc_law_set (fun vs H Q E h => ?_) (fun cdv A outer s H vs Q E hr h => ?_)
  · obtain ⟨q, l, rfl, _⟩ := h
    rfl
  · obtain ⟨q, l, rfl, hq, hl, ha, way⟩ := h
    have sq : SqL K H q l := .inl (.inl hq)
    have ln : ∀ n : Nat, n = l.length → LenV K (.ref q) H n := fun n e => .inl ⟨_, sq, e⟩
    have mk := madeX (by omega) ha way
    refine ⟨_, (pss_cons (ps_if (pt_cmpR op_eq (pe_callB call_len (by rfl) T.z_len (by decide +kernel) (pa_cons (pv 0) pa_nil)) pe_int (nomark _))
        (pss_one (ps_ret (pe_makeR0 T.mk_Names (ok_initX T hP) (hr.mono (by decide)) (by rfl) T.gC_Names (passes_call (takes_of rfl rfl rfl rfl) fun _ _ _ _ h => h))))
        pss_nil)
      (pss_cons (ps_if (pt_cmpR op_eq (pe_callB call_len (by rfl) T.z_len (by decide +kernel) (pa_cons (pv 0) pa_nil)) pe_int (nomark _))
        (pss_one (ps_ret (StX.pe_makeR T.mk_Names (ok_initX T hP) (hr.mono (by decide)) (by rfl) T.gC_Names (passes_call (takes_of rfl rfl rfl rfl) fun _ _ _ _ h => h) (pa_cons (pe_ix (ix_listK (K := K)) (pv 0) pe_int (fun _ _ => rfl)) pa_nil))))
        pss_nil)
      (pss_cons (ps_if (pt_cmpR op_eq (pe_callB call_len (by rfl) T.z_len (by decide +kernel) (pa_cons (pv 0) pa_nil)) pe_int (nomark _))
        (pss_one (ps_ret (StX.pe_makeR T.mk_Names (ok_initX T hP) (hr.mono (by decide)) (by rfl) T.gC_Names (passes_call (takes_of rfl rfl rfl rfl) fun _ _ _ _ h => h) (pa_cons (pe_ix (ix_listK (K := K)) (pv 0) pe_int (fun _ _ => rfl)) (pa_cons (pe_ix (ix_listK (K := K)) (pv 0) pe_int (fun _ _ => rfl)) pa_nil)))))
        pss_nil)
      (pss_cons (ps_if (pt_cmpR op_eq (pe_callB call_len (by rfl) T.z_len (by decide +kernel) (pa_cons (pv 0) pa_nil)) pe_int (nomark _))
        (pss_one (ps_ret (StX.pe_makeR T.mk_Names (ok_initX T hP) (hr.mono (by decide)) (by rfl) T.gC_Names (passes_call (takes_of rfl rfl rfl rfl) fun _ _ _ _ h => h) (pa_cons (pe_ix (ix_listK (K := K)) (pv 0) pe_int (fun _ _ => rfl)) (pa_cons (pe_ix (ix_listK (K := K)) (pv 0) pe_int (fun _ _ => rfl)) (pa_cons (pe_ix (ix_listK (K := K)) (pv 0) pe_int (fun _ _ => rfl)) pa_nil))))))
        pss_nil)
      (pss_one (ps_ret (StX.pe_makeR T.mk_Names (ok_initX T hP) (hr.mono (by decide)) (by rfl) T.gC_Names (passes_call (takes_of rfl rfl rfl rfl) fun _ _ _ _ h => h) (pa_cons (pe_ix (ix_listK (K := K)) (pv 0) pe_int (fun _ _ => rfl)) (pa_cons (pe_ix (ix_listK (K := K)) (pv 0) pe_int (fun _ _ => rfl)) (pa_cons (pe_ix (ix_listK (K := K)) (pv 0) pe_int (fun _ _ => rfl)) (pa_cons (pe_ix (ix_listK (K := K)) (pv 0) pe_int (fun _ _ => rfl)) pa_nil))))))))))), ?_⟩
    match l, hl, sq, ln, mk with
    | [], _, sq, ln, mk =>
      refine ⟨_, rfl, _, 0, rfl, ln 0 rfl, rfl, _, rfl, iteT ?_⟩
      exact mk
    | [a], _, sq, ln, mk =>
      refine ⟨_, rfl, _, 1, rfl, ln 1 rfl, rfl, _, rfl, iteF ?_⟩
      refine ⟨_, rfl, _, 1, rfl, ln 1 rfl, rfl, _, rfl, iteT ?_⟩
      refine ⟨_, rfl, q, _, _, _, rfl, rfl, sq, atI_nat (j := 0) rfl, ?_⟩
      exact mk
    | [a, b], _, sq, ln, mk =>
      refine ⟨_, rfl, _, 2, rfl, ln 2 rfl, rfl, _, rfl, iteF ?_⟩
      refine ⟨_, rfl, _, 2, rfl, ln 2 rfl, rfl, _, rfl, iteF ?_⟩
      refine ⟨_, rfl, _, 2, rfl, ln 2 rfl, rfl, _, rfl, iteT ?_⟩
      refine ⟨_, rfl, q, _, _, _, rfl, rfl, sq, atI_nat (j := 0) rfl, ?_⟩
      refine ⟨_, rfl, q, _, _, _, rfl, rfl, sq, atI_nat (j := 1) rfl, ?_⟩
      exact mk
    | [a, b, c], _, sq, ln, mk =>
      refine ⟨_, rfl, _, 3, rfl, ln 3 rfl, rfl, _, rfl, iteF ?_⟩
      refine ⟨_, rfl, _, 3, rfl, ln 3 rfl, rfl, _, rfl, iteF ?_⟩
      refine ⟨_, rfl, _, 3, rfl, ln 3 rfl, rfl, _, rfl, iteF ?_⟩
      refine ⟨_, rfl, _, 3, rfl, ln 3 rfl, rfl, _, rfl, iteT ?_⟩
      refine ⟨_, rfl, q, _, _, _, rfl, rfl, sq, atI_nat (j := 0) rfl, ?_⟩
      refine ⟨_, rfl, q, _, _, _, rfl, rfl, sq, atI_nat (j := 1) rfl, ?_⟩
      refine ⟨_, rfl, q, _, _, _, rfl, rfl, sq, atI_nat (j := 2) rfl, ?_⟩
      exact mk
    | [a, b, c, d], _, sq, ln, mk =>
      refine ⟨_, rfl, _, 4, rfl, ln 4 rfl, rfl, _, rfl, iteF ?_⟩
      refine ⟨_, rfl, _, 4, rfl, ln 4 rfl, rfl, _, rfl, iteF ?_⟩
      refine ⟨_, rfl, _, 4, rfl, ln 4 rfl, rfl, _, rfl, iteF ?_⟩
      refine ⟨_, rfl, _, 4, rfl, ln 4 rfl, rfl, _, rfl, iteF ?_⟩
      refine ⟨_, rfl, q, _, _, _, rfl, rfl, sq, atI_nat (j := 0) rfl, ?_⟩
      refine ⟨_, rfl, q, _, _, _, rfl, rfl, sq, atI_nat (j := 1) rfl, ?_⟩
      refine ⟨_, rfl, q, _, _, _, rfl, rfl, sq, atI_nat (j := 2) rfl, ?_⟩
      refine ⟨_, rfl, q, _, _, _, rfl, rfl, sq, atI_nat (j := 3) rfl, ?_⟩
      exact mk
    | a :: b :: c :: d :: e :: r, hl, _, _, _ =>
      simp only [List.length_cons] at hl
      omega
/-- None, or the index of the first value that is no path -/
def spRef (K : PySem.W.Frag) : Sp := fun vs H Q _ => ∃ (q : Addr) (xs : List V), vs = [.ref q] ∧ H q = some (.lst xs) ∧ xs.length ≤ 4 ∧ (∀ x ∈ xs, Arg K H x) ∧
  ((∃ zs : List Str, xs = zs.map V.str ∧ (∀ z ∈ zs, Pth z) ∧ ∀ H', Same H H' → Q .non H') ∨ (∃ k : Nat, FirstBad xs k ∧ ∀ H', Same H H' → Q (.int k) H'))
theorem ok_refused (T : Txt K mg) (hP : PrOk P) : FnOk P w K mg base CX0 7 T.f_law_refused T.fd_law_refused ["_law_some"] (spRef K) := by
  have GS : FnOk P w K mg base (L2.CX P w) 6 T.f_law_set T.fd_law_set ["_law_some"] (spSetX K T.C_Names T.C_BadPath) := ok_setX T hP
  refine T.F_law_refused.ok sc_law_refused (fun vs H Q E h => ?_) (fun cdv A outer s H vs Q E hr h => ?_)
  · obtain ⟨q, l, rfl, _⟩ := h
    rfl
  · obtain ⟨q, l, rfl, hq, hl, ha, way⟩ := h
    refine ⟨_, pss_cons (ps_set (i := 1) sc_law_refused.nd rfl (Or.inl rfl) pe_non)
      (pss_cons (ps_try_keep (i := 2) rfl rfl rfl sc_law_refused.nd rfl rfl ⟨rfl, by decide, .inl T.gC_SpareError⟩
        (fun W pn xe tk _ => pss_one (ps_expr (pe_callS GS hr rfl T.g_law_set T.F_law_set.kp T.b_law_set (fun σ => passAt tk σ) (pa_cons (pv 0) pa_nil))))
        (fun a oe cls d pn hz hf => pss_one (ps_set (i := 1) sc_law_refused.nd rfl (Or.inl rfl) (pv 2))))
      (pss_cons (ps_if (pt_cmpR op_isN (pv 1) pe_non (nomark _)) (pss_one (ps_ret pe_non)) pss_nil)
      (pss_one (ps_ret (pe_ifExp (pt_val (pe_callB call_isX (by rfl) T.z_isinstance (by decide +kernel) (pa_cons (pv 1) (pa_cons (pe_glob (v := .ref T.C_BadPath) rfl T.gC_BadPath rfl) pa_nil)))) (pe_xk (pv 1)) pe_str))))), ?_⟩
    refine ⟨_, rfl, q, l, rfl, hq, hl, ha, ?_⟩
    rcases way with ⟨zs, e, hz, k⟩ | ⟨k, fb, hk⟩
    · refine .inl ⟨zs, e, hz, fun x ys H2 N s2 m le => ?_⟩
      exact ⟨_, rfl, rfl, _, rfl, iteT (k H2 s2)⟩
    · refine .inr ⟨k, fb, fun d H1 s1 hd => ⟨T.m_BadPath, fun a na => ?_⟩⟩
      refine ⟨_, rfl, fun _ => ?_⟩
      have ad : d ≠ a := fun z => by rw [← z, upd_same] at na; cases na
      have hd2 : (upd (upd H1 d (.xd [("k", .int (k : Nat))])) a (ExK (.ref T.C_BadPath) (some d) a)) d = some (.xd [("k", .int (k : Nat))]) := by rw [upd_ne ad, upd_same]
      refine ⟨_, rfl, rfl, _, rfl, iteF ?_⟩
      refine ⟨_, rfl, a, T.C_BadPath, some d, .ref T.C_BadPath, .ref T.C_BadPath, true, rfl, upd_same, .inr ⟨d, _, rfl, hd2⟩, T.x_BadPath, .own _, kit_self _, true, rfl, iteT ?_⟩
      refine ⟨_, rfl, a, T.C_BadPath, d, _, _, rfl, upd_same, hd2, rfl, T.xf_BadPath, T.no_BadPath_k, ?_⟩
      exact hk _ ((s1.trans (same_new hd)).trans (same_new na))
end
end Sn

/-! ## law_k03: _law_right -/
namespace Sn
open PySem PySem.Spec PyProof.Rows L2 TL
theorem shorts_strs : ∀ l : List Str, (∀ z ∈ l, Asc z) → PyData.leavesShortAll 13 (l.map PyData.str) = true
  | [], _ => rfl
  | z :: r, h => by
    have h1 : PyData.leavesShort 13 (.str z) = true := by
      show (z.cps.toList.all fun c => decide (c < 16 ^ 8)) = true
      rw [List.all_eq_true]
      intro c hc
      have := h z (List.mem_cons.mpr (.inl rfl)) c hc
      exact decide_eq_true (by omega)
    show (PyData.leavesShort 13 (.str z) && PyData.leavesShortAll 13 (r.map PyData.str)) = true
    rw [h1, shorts_strs r fun y hy => h y (List.mem_cons.mpr (.inr hy))]; rfl
theorem weight_strs : ∀ l : List Str, (∀ z ∈ l, z.length ≤ 1000) → PyData.weightAll (l.map PyData.str) ≤ 1001 * l.length
  | [], _ => Nat.le_refl _
  | z :: r, h => by
    have h1 := weight_strs r fun y hy => h y (List.mem_cons.mpr (.inr hy))
    have h2 := h z (List.mem_cons.mpr (.inl rfl))
    show z.cps.size + 1 + PyData.weightAll (r.map PyData.str) ≤ _
    have e : z.cps.size = z.length := rfl
    rw [List.length_cons]; omega
theorem shown_strs {l : List Str} (ha : ∀ z ∈ l, Asc z) (hl : ∀ z ∈ l, z.length ≤ 1000) (h : l.length ≤ 100) : (PyData.tuple (l.map PyData.str)).shown.length ≤ sizeLine := by
  refine PyData.shown_fits (B := 13) (by decide) (by decide) (shorts_strs l ha) ?_
  have := weight_strs l hl
  show PyData.weightAll (l.map PyData.str) ≤ _
  have e : (2 : Nat) ^ 20 = 1048576 := by decide
  omega
theorem showable_strs : ∀ l : List Str, PyData.showableAll (l.map PyData.str) = true
  | [] => rfl
  | z :: r => by
    show (true && PyData.showableAll (r.map PyData.str)) = true
    rw [showable_strs r]; rfl
theorem nodict_strs : ∀ l : List Str, PyData.hasDictAll (l.map PyData.str) = false
  | [] => rfl
  | z :: r => by
    show (false || PyData.hasDictAll (r.map PyData.str)) = false
    rw [nodict_strs r]; rfl
theorem depth_tstrs (l : List Str) : (PyData.tuple (l.map PyData.str)).depth ≤ 64 := by
  simp [PyData.depth, depth_strs l]
theorem shown_pair : ∀ n ∈ List.range 5, ∀ b : Bool, (PyData.list [.int (n : Nat), .bool b]).shown.length ≤ sizeLine ∧ (PyData.list [.int (n : Nat), .bool b]).showable = true := by decide +kernel
section
variable {P : Program} {w : World} {K : PySem.W.Frag} {mg : Str → Option Value} {base : Heap}
/-- the law's look at a set: it is as due, whatever is asked -/
def spRight (K : PySem.W.Frag) (C : Addr) : Sp := fun vs H Q _ => ∃ (a q o : Addr) (ys : List Str) (os : List V), vs = [.ref a, .ref q, .ref o] ∧ Nm C H a ys ∧ H q = some (.lst (ys.map V.str)) ∧ H o = some (.lst os) ∧ ys.length ≤ 4 ∧
  (∀ v ∈ os, Arg K H v) ∧ ∀ H', Same H H' → Q (.bl true) H'
theorem ok_right (T : Txt K mg) : FnG P w K mg base CX0 6 T.f_law_right T.fd_law_right ["_law_made", "_law_due", "_law_others"] (spRight K T.C_Names) := by
  refine okG T.F_law_right sc_law_right (fun vs H Q E h => ?_) (fun cdv A outer s H vs Q E hgu hr h => ?_)
  · obtain ⟨a, q, o, ys, os, rfl, _⟩ := h
    rfl
  · obtain ⟨a, q, o, ys, os, rfl, N, hq, ho, l4, hA, k⟩ := h
    refine ⟨_, (pss_cons (ps_if (pt_cmpR op_ne (pe_callB (call_repr hgu (hu70 hr)) (by rfl) T.z_repr (by decide +kernel) (pa_cons (pe_fldK (K := K) (pv 0)) pa_nil)) (pe_callB (call_repr hgu (hu70 hr)) (by rfl) T.z_repr (by decide +kernel) (pa_cons (pe_callTy call_tuple_of (by rfl) T.z_tuple (by decide +kernel) (pa_cons (pv 1) pa_nil)) pa_nil)) (nomark _))
        (pss_one (ps_ret pe_bl))
        pss_nil)
      (pss_cons (ps_if (pt_cmpR op_ne (pe_callB (call_repr hgu (hu70 hr)) (by rfl) T.z_repr (by decide +kernel) (pa_cons (pe_lst (pa_cons (pe_callB (own_len (ok_lenN T) (hr.mono (by decide)) T.m_Names_len.at_ T.m_Names_len.fn T.b_Names_len pass0) (by rfl) T.z_len (by decide +kernel) (pa_cons (pv 0) pa_nil)) (pa_cons (pe_callTy (own_bool (ok_boolN T) (hr.mono (by decide)) T.m_Names_bool.at_ T.m_Names_bool.fn T.b_Names_bool pass0) (by rfl) T.z_bool (by decide +kernel) (pa_cons (pv 0) pa_nil)) pa_nil))) pa_nil)) (pe_callB (call_repr hgu (hu70 hr)) (by rfl) T.z_repr (by decide +kernel) (pa_cons (pe_lst (pa_cons (pe_callB call_len (by rfl) T.z_len (by decide +kernel) (pa_cons (pv 1) pa_nil)) (pa_cons (pe_cmpR (op_neDK (K := K) hr.units) (pv 1) (pe_lst pa_nil) (nomark _)) pa_nil))) pa_nil)) (nomark _))
        (pss_one (ps_ret pe_bl))
        pss_nil)
      (pss_cons (ps_for PassesOwn.never rfl (pi_list (pv 2)) (pg_name (i := 3) sc_law_right.nd rfl (Or.inl rfl))
        (pss_one (ps_if (pt_cmpR op_ne (pe_callB call_reprS (by rfl) T.z_repr (by decide +kernel) (pa_cons (pe_cmpR (own_in (ok_has T) (hr.mono (by decide)) T.m_Names_contains.at_ T.m_Names_contains.fn T.b_Names_contains pass0) (pv 3) (pv 0) (by rfl)) pa_nil)) (pe_callB call_reprS (by rfl) T.z_repr (by decide +kernel) (pa_cons (pe_and (pe_callB call_isi (by rfl) T.z_isinstance (by decide +kernel) (pa_cons (pv 3) (pa_cons (pe_bltn (v := .ty "str") (by rfl) T.z_str (by decide +kernel) rfl) pa_nil))) (pe_one (pe_cmpR (op_in_seqK (K := K)) (pv 3) (pv 1) (by rfl)))) pa_nil)) (nomark _))
        (pss_one (ps_ret pe_bl))
        pss_nil)))
      (pss_one (ps_ret pe_bl))))), ?_⟩
    obtain ⟨dx, t, h1, ht⟩ := N.at_
    have hsh := shown_strs N.asc (fun z hz => (N.pth z hz).l) (by omega)
    have sh : (PyData.tuple (ys.map PyData.str)).showable = true := showable_strs ys
    have nd : (PyData.tuple (ys.map PyData.str)).hasDict = false := nodict_strs ys
    refine ⟨_, rfl, a, _, dx, _, _, rfl, h1, T.cl_Names, T.at_Names_paths, rfl, t, _, rfl, .tup (.inl (.inl ht)) (dp_strs ys), sh, nd, depth_tstrs ys, hsh, ?_⟩
    refine ⟨_, rfl, q, _, rfl, .inl ⟨.inl (.inl hq), fun p1 n1 => ?_⟩⟩
    have s1 := same_new (o := .tup (ys.map V.str)) n1
    refine ⟨p1, _, rfl, .tup (.inl (.inl upd_same)) (dp_strs ys), sh, nd, depth_tstrs ys, hsh, rfl, _, rfl, iteNS rfl ?_⟩
    generalize upd H p1 (.tup (ys.map V.str)) = H1 at s1
    have N1 := N.same s1
    have g1 := s1 _ _ h1
    refine ⟨_, rfl, a, dx, _, rfl, g1, a, ys, rfl, N1, by omega, ys.length, by omega, rfl, ?_⟩
    refine ⟨_, rfl, a, dx, _, rfl, g1, a, ys, rfl, N1, _, rfl, ?_⟩
    refine ⟨(by show 2 ≤ sizeLine; decide), fun p2 n2 => ?_⟩
    obtain ⟨w1, w2⟩ := shown_pair ys.length (List.mem_range.mpr (by omega)) (decide (ys ≠ []))
    have dpL : ∀ {H : Hp} {q : Addr}, H q = some (.lst [.int (ys.length : Nat), .bl (decide (ys ≠ []))]) → Dp K H (.ref q) (.list [.int (ys.length : Nat), .bool (decide (ys ≠ []))]) :=
      fun h => .lst (.inl (.inl h)) (.cons (.int _) (.cons (.bl _) .nil))
    have dz : (PyData.list [.int (ys.length : Nat), .bool (decide (ys ≠ []))]).depth ≤ 64 := by simp [PyData.depth, PyData.depthAll]
    refine ⟨p2, _, rfl, dpL upd_same, w2, rfl, dz, w1, ?_⟩
    have s2 := s1.trans (same_new (o := .lst [.int (ys.length : Nat), .bl (decide (ys ≠ []))]) n2)
    generalize upd H1 p2 (.lst [.int (ys.length : Nat), .bl (decide (ys ≠ []))]) = H2 at s2
    refine ⟨_, rfl, _, ys.length, rfl, .inl ⟨_, .inl (.inl (s2 _ _ hq)), by rw [List.length_map]⟩, ?_⟩
    refine ⟨_, rfl, (by show 0 ≤ sizeLine; decide), fun p3 n3 => ?_⟩
    have s3 := s2.trans (same_new (o := .lst []) n3)
    refine ⟨_, _, .lst (.inl (.inl (s3 _ _ hq))) (dp_strs ys), .lst (.inl (.inl upd_same)) .nil, shaped_strs _ N.asc, rfl, ?_⟩
    have e0 : (!PyData.eqv (.list (ys.map PyData.str)) (.list [])) = decide (ys ≠ []) := by
      rw [show PyData.eqv (.list (ys.map PyData.str)) (.list []) = decide (ys = []) from eqv_lists ys []]
      simp
    rw [e0]
    refine ⟨(by show 2 ≤ sizeLine; decide), fun p4 n4 => ?_⟩
    have s4 := s3.trans (same_new (o := .lst [.int (ys.length : Nat), .bl (decide (ys ≠ []))]) n4)
    refine ⟨p4, _, rfl, dpL upd_same, w2, rfl, dz, w1, rfl, _, rfl, iteNS rfl ?_⟩
    refine ⟨_, rfl, o, rfl, ⟨_, .inl (.inl (s4 _ _ ho))⟩, ?_⟩
    refine for_list (K := K) (a := o) (xs := os) (fun i σ H5 => ∃ v3 : Option V, σ = [some (.ref a), some (.ref q), some (.ref o), v3] ∧ Same H H5) ⟨none, rfl, s4⟩ (fun i σ H5 _ ⟨_, _, s5⟩ => .inl (.inl (s5 _ _ ho))) ?_ ?_
    · rintro i v σ H5 hv ⟨v3, rfl, s5⟩
      have av := hA v (List.mem_of_getElem? hv)
      refine ⟨_, rfl, _, rfl, a, dx, _, rfl, s5 _ _ h1, a, ys, v, rfl, N.same s5, av.same s5, _, rfl, ?_⟩
      refine ⟨_, _, rfl, rfl, (fun i z => by cases z), ?_⟩
      rcases av with ⟨z, rfl, hz⟩ | hn
      · refine ⟨_, rfl, _, .ty "str", .type "str", .type "str", true, rfl, .ty "str", .base (.str z), kit_ty (by decide +kernel), true, rfl, iteT ?_⟩
        refine ⟨_, rfl, _, rfl, in_reads (s5 _ _ hq) ?_⟩
        exact ⟨_, _, rfl, rfl, (fun i z => by cases z), rfl, _, rfl, iteNS rfl ⟨_, rfl, s5⟩⟩
      · obtain ⟨ty, hty, hk⟩ := id hn
        refine ⟨_, rfl, _, .ty "str", ty, .type "str", false, rfl, .ty "str", tyX_same s5 hty, hk, false, rfl, iteF ?_⟩
        refine ⟨_, _, rfl, rfl, (fun i z => by cases z), rfl, _, rfl, iteNS ?_ ⟨_, rfl, s5⟩⟩
        rw [hn.ans]
    · rintro σ H5 ⟨v3, rfl, s5⟩
      exact k H5 s5
end
end Sn

/-! ## law_k03: values that are no paths -/
namespace Sn
open PySem PySem.Spec PyProof.Rows L2 TL
/-- a value that is no path, whatever is drawn -/
def Odd (K : PySem.W.Frag) (d g : Addr) (H : Hp) (v : V) : Prop := ∀ H', Mv d g H H' → (∃ Ty, TyB K H' v Ty) ∧ Arg K H' v ∧ ans isP v = false ∧ ∀ (z : Str) (Q : VK), Pth z → Q (.bl true) H' → rNeS K v (.str z) H' Q
section
variable {K : PySem.W.Frag} {d g : Addr} {H : Hp}
theorem Odd.mv {H' : Hp} {v : V} (o : Odd K d g H v) (m : Mv d g H H') : Odd K d g H' v := fun H2 m2 => o H2 (m.trans m2)
theorem odd_non : Odd K d g H .non := fun H' _ => ⟨⟨_, .non⟩, .inr ⟨_, .base .non, kit_ty (by decide +kernel)⟩, rfl, fun z Q _ q => .inl ⟨rfl, q⟩⟩
theorem odd_int (i : Int) : Odd K d g H (.int i) := fun H' _ => ⟨⟨_, .int i⟩, .inr ⟨_, .base (.int i), kit_ty (by decide +kernel)⟩, rfl, fun z Q _ q => .inl ⟨rfl, q⟩⟩
theorem odd_bl (b : Bool) : Odd K d g H (.bl b) := fun H' _ => ⟨⟨_, .bl b⟩, .inr ⟨_, .base (.bl b), kit_ty (by decide +kernel)⟩, rfl, fun z Q _ q => .inl ⟨rfl, q⟩⟩
theorem odd_str {o : Str} (h : isP o = false) (hl : o.length ≤ 1000) : Odd K d g H (.str o) := fun H' _ => ⟨⟨_, .str o⟩, .inl ⟨o, rfl, hl⟩, h, fun z Q hz q => .inl ⟨rfl, by
  have ne : o ≠ z := fun e => by rw [e, hz.p] at h; cases h
  have e : (!decide (V.str o = V.str z)) = true := by
    rw [Bool.not_eq_true', decide_eq_false_iff_not]
    intro q
    injection q with q
    exact ne q
  rw [e]; exact q⟩⟩
theorem shaped_str {z : Str} (h : Asc z) : SeqAt.shaped (.str z) = true := by
  have q := shaped_strs [z] (fun y hy => by rw [List.mem_singleton.mp hy]; exact h)
  simp [SeqAt.shaped, PyData.canLay0, PyData.canLayAll0, PyData.depth, PyData.depthAll] at q ⊢
  exact q
theorem odd_lst {p : Addr} {l : List Str} (h : H p = some (.lst (l.map V.str))) (ha : ∀ z ∈ l, Asc z) (nd : p ≠ d) (ng : p ≠ g) : Odd K d g H (.ref p) := fun H' m => by
  have h' := m _ _ nd ng h
  refine ⟨⟨_, .lst h'⟩, .inr ⟨_, .base (.lst h'), kit_ty (by decide +kernel)⟩, rfl, fun z Q hz q => .inr (.inl ?_)⟩
  exact ⟨_, _, .lst (.inl (.inl h')) (dp_strs l), .str z, shaped_strs l ha, shaped_str hz.a, q⟩
theorem odd_tup {p : Addr} (h : H p = some (.tup [])) (nd : p ≠ d) (ng : p ≠ g) : Odd K d g H (.ref p) := fun H' m => by
  have h' := m _ _ nd ng h
  refine ⟨⟨_, .tup h'⟩, .inr ⟨_, .base (.tup h'), kit_ty (by decide +kernel)⟩, rfl, fun z Q hz q => .inr (.inl ?_)⟩
  exact ⟨_, _, .tup (.inl (.inl h')) .nil, .str z, rfl, shaped_str hz.a, q⟩
theorem odd_dK {p : Addr} (h : H p = some (.dK [])) (nd : p ≠ d) (ng : p ≠ g) : Odd K d g H (.ref p) := fun H' m => by
  have h' := m _ _ nd ng h
  exact ⟨⟨_, .dK h'⟩, .inr ⟨_, .base (.dK h'), kit_ty (by decide +kernel)⟩, rfl, fun z Q hz q => .inr (.inr ⟨p, [], z, rfl, rfl, h', q⟩)⟩
end
end Sn

/-! ## law_k03: the law -/
namespace Sn
open PySem PySem.Spec PyProof.Rows L2 TL
theorem fl_one (p : Nat → Bool) (j : Nat) : [j].filter p = if p j = true then [j] else [] := by
  cases h : p j <;> simp [h]
theorem Nm.mv {C : Addr} {H H' : Hp} {x d g c : Addr} {m : Nat} {ys : List Str} (N : Nm C H x ys) (D : Dr H d g c m) (v : Mv d g H H') : Nm C H' x ys := by
  obtain ⟨⟨dx, t, h1, h2⟩, r, p⟩ := N
  obtain ⟨⟨l, k, _, _, hd⟩, ⟨gs, hg⟩, _, _⟩ := D
  refine ⟨⟨dx, t, v _ _ (fun e => ?_) (fun e => ?_) h1, v _ _ (fun e => ?_) (fun e => ?_) h2⟩, r, p⟩
  · rw [e, hd] at h1; cases h1
  · rw [e, hg] at h1; cases h1
  · rw [e, hd] at h2; cases h2
  · rw [e, hg] at h2; cases h2
theorem log4 : ∀ j ∈ List.range 5, ((j : Nat) : Int).natAbs.log2 < 1920 := by decide +kernel
section
variable {P : Program} {w : World} {K : PySem.W.Frag} {mg : Str → Option Value} {base : Heap}
/-- the law: a list of at most 63 ints is handed in, True comes out -/
def spLaw (K : PySem.W.Frag) : Sp := fun vs H Q _ => ∃ (a : Addr) (ns : List Int), vs = [.ref a] ∧ SqL K H a (ns.map V.int) ∧ ns.length ≤ 63 ∧ ∀ H', Q (.bl true) H'
theorem ok_law (T : Txt K mg) (hP : PrOk P) : FnG P w K mg base CX0 9 T.f_law T.fd_law ["_law_script"] (spLaw K) := by
  refine okG T.F_law sc_law (fun vs H Q E h => ?_) (fun cdv A outer s H vs Q E hgu hr h => ?_)
  · obtain ⟨a, ns, rfl, _⟩ := h
    rfl
  · obtain ⟨a, ns, rfl, hS, hl, k⟩ := h
    refine ⟨_, (pss_cons (ps_set (i := 1) sc_law.nd rfl (Or.inr rfl) (pe_call (ok_begun T) (hr.mono (by decide)) rfl T.g_law_begun T.F_law_begun.kp T.b_law_begun .nil pass0 (pa_cons (pv 0) pa_nil)))
      (pss_cons (ps_for PassesOwn.never rfl (pi_range1 (by rfl) T.z_range (pa_cons (pe_op op_add pe_int (pe_callB (call_min2 rfl) (by rfl) T.z_min (by decide +kernel) (pa_cons (pe_callB call_len (by rfl) T.z_len (by decide +kernel) (pa_cons (pv 0) pa_nil)) (pa_cons pe_int pa_nil)))) pa_nil)) (pg_name (i := 2) sc_law.nd rfl (Or.inl rfl))
        (pss_cons (ps_set (i := 3) sc_law.nd rfl (Or.inr rfl) (pe_call (ok_names T) (hr.mono (by decide)) rfl T.g_law_names T.F_law_names.kp T.b_law_names .nil pass0 (pa_cons (pv 1) (pa_cons pe_int pa_nil))))
      (pss_cons (ps_set (i := 5) sc_law.nd rfl (Or.inr rfl) (pe_lc (own := [("_law_k", 4)]) (g := gName 4) (by rfl) sc_law.nd (pi_range1 (by rfl) T.z_range (pa_cons (pe_call (ok_take T) (hr.mono (by decide)) rfl T.g_law_take T.F_law_take.kp T.b_law_take .nil pass0 (pa_cons (pv 1) (pa_cons pe_int pa_nil))) pa_nil)) (blkOk_by (own := [("_law_k", 4)]) (N := n_law) (sc := defScope s_law) (by decide +kernel)) (fun _ _ _ _ _ => (pg_name (i := 4) sc_law.nd rfl (Or.inl rfl))) (fun _ _ _ _ _ => pts_nil) (fun _ _ _ _ _ => (pe_call (ok_lpath T) (hr.mono (by decide)) rfl T.g_law_path T.F_law_path.kp T.b_law_path .nil pass0 (pa_cons (pv 1) (pa_cons (pv 3) pa_nil))))))
      (pss_cons (ps_set (i := 6) sc_law.nd rfl (Or.inl rfl) (pe_lst (pa_cons pe_non (pa_cons pe_int (pa_cons pe_bl (pa_cons pe_str (pa_cons (pe_ix (ix_listK (K := K)) (pv 3) pe_int (fun _ _ => rfl)) (pa_cons (pe_op op_add_str (pe_ix (ix_listK (K := K)) (pv 3) pe_int (fun _ _ => rfl)) pe_str) (pa_cons (pe_op op_add_str pe_str (pe_ix (ix_listK (K := K)) (pv 3) pe_int (fun _ _ => rfl))) (pa_cons (pe_op op_add_str (pe_ix (ix_listK (K := K)) (pv 3) pe_int (fun _ _ => rfl)) pe_str) (pa_cons (pe_lst pa_nil) (pa_cons (pe_tup pa_nil) (pa_cons pe_dnewK (pa_cons (pv 5) pa_nil))))))))))))))
      (pss_cons (ps_set (i := 6) sc_law.nd rfl (Or.inl rfl) (pe_op op_cat (pv 6) (pe_lst (pa_cons (pe_op op_add_str pe_str (pe_ix (ix_listK (K := K)) (pv 3) pe_int (fun _ _ => rfl))) pa_nil))))
      (pss_cons (ps_set (i := 7) sc_law.nd rfl (Or.inr rfl) (pe_callTy call_list_of (by rfl) T.z_list (by decide +kernel) (pa_cons (pv 5) pa_nil)))
      (pss_cons (ps_for PassesOwn.never rfl (pi_range1 (by rfl) T.z_range (pa_cons (pe_call (ok_take T) (hr.mono (by decide)) rfl T.g_law_take T.F_law_take.kp T.b_law_take .nil pass0 (pa_cons (pv 1) (pa_cons pe_int pa_nil))) pa_nil)) (pg_name (i := 4) sc_law.nd rfl (Or.inl rfl))
        (pss_one (ps_if (pt_cmpR (op_neNil (K := K) hr.units) (pv 7) (pe_lst pa_nil) (nomark _))
        (pss_one (ps_asg (pe_call (ok_pick T) (hr.mono (by decide)) rfl T.g_law_pick T.F_law_pick.kp T.b_law_pick .nil pass0 (pa_cons (pv 1) (pa_cons (pv 6) pa_nil))) (pg_sub (pv 7) (pe_call (ok_take T) (hr.mono (by decide)) rfl T.g_law_take T.F_law_take.kp T.b_law_take .nil pass0 (pa_cons (pv 1) (pa_cons (pe_callB call_len (by rfl) T.z_len (by decide +kernel) (pa_cons (pv 7) pa_nil)) pa_nil))) set_list)))
        pss_nil)))
      (pss_cons (ps_setLc (i := 8) (own := [("_law_k", 4)]) (g := gName 4) rfl sc_law.nd rfl rfl (sw_true rfl rfl rfl (by decide +kernel)) (pi_range1 (by rfl) T.z_range (pa_cons (pe_callB call_len (by rfl) T.z_len (by decide +kernel) (pa_cons (pv 7) pa_nil)) pa_nil)) (blkOk_by (own := [("_law_k", 4)]) (N := n_law) (sc := defScope s_law) (by decide +kernel)) (fun _ _ _ _ _ => (pg_name (i := 4) sc_law.nd rfl (Or.inl rfl))) (fun _ _ _ _ _ => (pts_one (pt_cmpR (op_neS (K := K) hr.units) (pe_ix (ix_listK (K := K)) (pv 7) (pv 4) (fun _ _ => rfl)) (pe_ix (ix_listK (K := K)) (pv 5) (pv 4) (fun _ _ => rfl)) (nomark _)))) (fun _ _ _ _ _ => (pv 4)))
      (C8.pss_cut (ps_if (pt_cmpR op_ne (pe_callB call_reprS (by rfl) T.z_repr (by decide +kernel) (pa_cons (pe_call (ok_refused T hP) (hr.mono (by decide)) rfl T.g_law_refused T.F_law_refused.kp T.b_law_refused .nil pass0 (pa_cons (pv 7) pa_nil)) pa_nil)) (pe_callB call_reprS (by rfl) T.z_repr (by decide +kernel) (pa_cons (pe_ifExp (pt_cmpR (op_neDK (K := K) hr.units) (pv 8) (pe_lst pa_nil) (nomark _)) (pe_ix (ix_listK (K := K)) (pv 8) pe_int (fun _ _ => rfl)) pe_non) pa_nil)) (nomark _))
        (pss_one (ps_ret pe_bl))
        pss_nil)
      (pss_cons (ps_asg (pe_tup (pa_cons (pe_call (ok_setX T hP) (hr.mono (by decide)) rfl T.g_law_set T.F_law_set.kp T.b_law_set .nil passL (pa_cons (pv 5) pa_nil)) (pa_cons (pe_lst pa_nil) pa_nil))) (pg_tup rfl (pgs_cons (pg_name (i := 9) sc_law.nd rfl (Or.inr rfl)) (pgs_cons (pg_name (i := 10) sc_law.nd rfl (Or.inr rfl)) pgs_nil))))
      (pss_cons (ps_for PassesOwn.never rfl (pi_list (pe_callB cr_sortedS (by rfl) T.z_sorted (by decide +kernel) (pa_cons (pv 5) pa_nil))) (pg_name (i := 11) sc_law.nd rfl (Or.inl rfl))
        (pss_one (ps_set (i := 10) sc_law.nd rfl (Or.inr rfl) (pe_ifExp (pt_cmpR (op_in_seqK (K := K)) (pv 11) (pv 10) (by rfl)) (pv 10) (pe_op op_cat (pv 10) (pe_lst (pa_cons (pv 11) pa_nil)))))))
      (pss_cons (ps_set (i := 12) sc_law.nd rfl (Or.inl rfl) (pe_op op_cat (pe_op op_cat (pv 6) (pv 5)) (pe_lst (pa_cons (pe_call (ok_lpath T) (hr.mono (by decide)) rfl T.g_law_path T.F_law_path.kp T.b_law_path .nil pass0 (pa_cons (pv 1) (pa_cons (pv 3) pa_nil))) (pa_cons (pe_call (ok_lpath T) (hr.mono (by decide)) rfl T.g_law_path T.F_law_path.kp T.b_law_path .nil pass0 (pa_cons (pv 1) (pa_cons (pv 3) pa_nil))) (pa_cons (pe_callTy call_tuple_of (by rfl) T.z_tuple (by decide +kernel) (pa_cons (pv 5) pa_nil)) pa_nil))))))
      (pss_cons (ps_if (pt_not (pt_val (pe_callG (ok_right T) hgu (hr.mono (by decide)) rfl T.g_law_right T.F_law_right.kp T.b_law_right .nil pass0 (pa_cons (pv 9) (pa_cons (pv 10) (pa_cons (pv 12) pa_nil))))))
        (pss_one (ps_ret pe_bl))
        pss_nil)
      (pss_cons (ps_if (PW.pt (pw_or (pt_not (pt_cmpR (own_eqBK (K := K) (ok_eqV T) (hr.mono (by decide)) T.m_Names_eq.at_ T.m_Names_eq.fn T.b_Names_eq pass0) (pv 9) (pe_call (ok_setX T hP) (hr.mono (by decide)) rfl T.g_law_set T.F_law_set.kp T.b_law_set .nil passL (pa_cons (pe_revL (pv 5)) pa_nil)) (nomark _))) (pw_or1 (pt_cmpR (own_ne (ok_eqV T) (hr.mono (by decide)) T.m_Names_eq.at_ T.ne_Names T.im_Names T.m_Names_eq.fn T.b_Names_eq pass0) (pv 9) (pe_call (ok_setX T hP) (hr.mono (by decide)) rfl T.g_law_set T.F_law_set.kp T.b_law_set .nil passL (pa_cons (pv 10) pa_nil)) (nomark _)))))
        (pss_one (ps_ret pe_bl))
        pss_nil)
      (pss_cons (ps_setLc (i := 13) (own := [("_law_word", 15)]) (g := gName 15) rfl sc_law.nd rfl rfl (sw_true rfl rfl rfl (by decide +kernel)) (pi_str pe_str) (blkOk_by (own := [("_law_word", 15)]) (N := n_law) (sc := defScope s_law) (by decide +kernel)) (fun _ _ _ _ _ => (pg_name (i := 15) sc_law.nd rfl (Or.inl rfl))) (fun _ _ _ _ _ => pts_nil) (fun _ _ _ _ _ => (pe_op op_add_str (pe_op op_add_str (pe_ix (ix_listK (K := K)) (pv 3) pe_int (fun _ _ => rfl)) pe_str) (pv 15))))
      (pss_cons (ps_set (i := 13) sc_law.nd rfl (Or.inl rfl) (pe_ix (ix_listK (K := K)) (pe_lc (own := [("_law_path_here", 11)]) (g := gName 11) (by rfl) sc_law.nd (pi_list (pv 13)) (blkOk_by (own := [("_law_path_here", 11)]) (N := n_law) (sc := defScope s_law) (by decide +kernel)) (fun _ _ _ _ _ => (pg_name (i := 11) sc_law.nd rfl (Or.inl rfl))) (fun _ _ _ _ _ => (pts_one (pt_cmpR (op_notIn_seqK (K := K)) (pv 11) (pv 10) (by rfl)))) (fun _ _ _ _ _ => (pv 11))) pe_int (fun _ _ => rfl)))
      (C8.pss_cut (ps_if (PW.pt (pw_and (pt_cmpR op_lt (pe_callB call_len (by rfl) T.z_len (by decide +kernel) (pa_cons (pv 10) pa_nil)) pe_int (nomark _)) (pw_and1 (PW.pt (pw_or (pt_cmpR (own_eqBK (K := K) (ok_eqV T) (hr.mono (by decide)) T.m_Names_eq.at_ T.m_Names_eq.fn T.b_Names_eq pass0) (pv 9) (pe_call (ok_setX T hP) (hr.mono (by decide)) rfl T.g_law_set T.F_law_set.kp T.b_law_set .nil passL (pa_cons (pe_op op_cat (pv 10) (pe_lst (pa_cons (pv 13) pa_nil))) pa_nil)) (nomark _)) (pw_or1 (pt_cmpR (own_in (ok_has T) (hr.mono (by decide)) T.m_Names_contains.at_ T.m_Names_contains.fn T.b_Names_contains pass0) (pv 13) (pv 9) (by rfl))))))))
        (pss_one (ps_ret pe_bl))
        pss_nil)
      (pss_cons (ps_set (i := 14) sc_law.nd rfl (Or.inl rfl) (pe_call (ok_setX T hP) (hr.mono (by decide)) rfl T.g_law_set T.F_law_set.kp T.b_law_set .nil passL (pa_cons (pe_slice sl_list (pv 10) (po_some pe_int) po_none) pa_nil)))
      (pss_cons (ps_set (i := 6) sc_law.nd rfl (Or.inl rfl) (pe_op op_cat (pv 6) (pe_lst (pa_cons (pe_fldK (K := K) (pv 9)) (pa_cons (pe_callB call_len (by rfl) T.z_len (by decide +kernel) (pa_cons (pv 10) pa_nil)) pa_nil)))))
      (pss_one (ps_if (PW.pt (pw_or (pt_cmpR op_ne (pe_cmpR (own_eqBK (K := K) (ok_eqV T) (hr.mono (by decide)) T.m_Names_eq.at_ T.m_Names_eq.fn T.b_Names_eq pass0) (pv 9) (pv 14) (nomark _)) (pe_cmpR (op_eqDK (K := K) hr.units) (pv 10) (pe_lst pa_nil) (nomark _)) (nomark _)) (pw_or1 (pt_cmpR (op_neDK (K := K) hr.units) (pe_lc (own := [("_law_value", 16)]) (g := gName 16) (by rfl) sc_law.nd (pi_list (pv 6)) (blkOk_by (own := [("_law_value", 16)]) (N := n_law) (sc := defScope s_law) (by decide +kernel)) (fun _ _ _ _ _ => (pg_name (i := 16) sc_law.nd rfl (Or.inl rfl))) (fun _ _ _ _ _ => (pts_one (pt_cmpR (own_eqBK (K := K) (ok_eqV T) (hr.mono (by decide)) T.m_Names_eq.at_ T.m_Names_eq.fn T.b_Names_eq pass0) (pv 9) (pv 16) (nomark _)))) (fun _ _ _ _ _ => (pv 16))) (pe_lst pa_nil) (nomark _)))))
        (pss_one (ps_ret pe_bl))
        pss_nil)))))))))))))))))))))
      (pss_one (ps_ret pe_bl)))), ?_⟩
    refine ⟨_, rfl, a, ns, rfl, hS, by omega, fun d g c H1 nd ng nc D1 s1 => ?_⟩
    refine ⟨_, rfl, _, ns.length, rfl, .inl ⟨_, s1.seq hS, by rw [List.length_map]⟩, _, _, rfl, ?_⟩
    generalize en : (if (30 : Int) < (ns.length : Int) then (30 : Int) else (ns.length : Int)) = mn
    have hmn : 0 ≤ mn ∧ mn ≤ 30 := by rw [← en]; split <;> omega
    refine ⟨_, _, rfl, rfl, _, rfl, by omega, by omega, ?_⟩
    refine for_range (lo := 0) (n := (6 + mn).toNat) (fun i σ H2 => ∃ (v2 v3 v4 v5 v6 v7 v8 v9 v10 v11 v12 v13 v14 v15 v16 : Option V), σ = [some (.ref a), some (.ref d), v2, v3, v4, v5, v6, v7, v8, v9, v10, v11, v12, v13, v14, v15, v16] ∧ Dr H2 d g c (200 * i))
      ⟨none, none, none, none, none, none, none, none, none, none, none, none, none, none, none, rfl, D1⟩ ?_ ?_
    · rintro i σ H2 hi ⟨v2, v3, v4, v5, v6, v7, v8, v9, v10, v11, v12, v13, v14, v15, v16, rfl, D2⟩
      refine ⟨_, rfl, d, g, c, _, 3, rfl, D2, by omega, by omega, fun q l H3 hq0 l3 nd3 hN hq D3 mv3 => ?_⟩
      have nq := dr_new D2 hq0
      -- the paths
      refine ⟨_, rfl, d, g, c, _, _, rfl, D3, by omega, by decide, by decide, fun r H4 r0 r1 D4 mv4 => ?_⟩
      obtain ⟨n, rfl⟩ := Int.eq_ofNat_of_zero_le r0
      refine ⟨_, rfl, by omega, by omega, fun S hS0 => ?_⟩
      have nS := dr_new D4 hS0
      have hq4 := mv4 _ _ nq.1 nq.2.1 hq
      refine lc_range (lo := 0) (n := n) (fun jj H5 => ∃ ps : List Str, ps.length = jj ∧ (∀ z ∈ ps, Pth z) ∧ H5 S = some (.lst (ps.map V.str)) ∧ Dr H5 d g c (200 * i + 120 + 1 + 2 * jj) ∧ Mv d g H4 H5)
        ⟨[], rfl, (fun z hz => nomatch hz), upd_same, D4.same (same_new hS0), Mv.same (same_new hS0)⟩ ?_ ?_
      · rintro jj H5 hjj ⟨ps, lp, hps, hS5, D5, mv5⟩
        refine ⟨rfl, ?_⟩
        refine ⟨_, rfl, _, rfl, d, g, c, q, _, l, rfl, D5, by omega, mv5 _ _ nq.1 nq.2.1 hq4, nq.1, nq.2.1, by omega, by omega, hN, fun x y H6 hx hy D6 mv6 => ?_⟩
        refine ⟨_, mv6 _ _ nS.1 nS.2.1 hS5, small1000 (by rw [List.length_map]; omega), ps ++ [x ++ "." ++ y], by rw [List.length_append, lp]; rfl, ?_, ?_, D6.upd nS, (mv5.trans mv6).put hS0⟩
        · intro z hz
          rcases List.mem_append.mp hz with hz | hz
          · exact hps z hz
          · rw [List.mem_singleton.mp hz]; exact pth_of (hN x hx) (hN y hy)
        · rw [upd_same, List.map_append]; rfl
      rintro H5 ⟨ps, lp, hps, hS5, D5, mv5⟩
      have hq5 := mv5 _ _ nq.1 nq.2.1 hq4
      have n0 : isN (l.getD 0 "") = true := hN _ (getD_mem (by omega))
      have nm0 : atI (l.map V.str) 0 = some (.str (l.getD 0 "")) := atI_nat (j := 0) (get_nm (by omega))
      generalize l.getD 0 "" = nm at n0 nm0
      have nm8 := isN_len n0
      have q5 : SqL K H5 q (l.map V.str) := .inl (.inl hq5)
      have ld : ("." : Str).length = 1 := by decide +kernel
      have la : (".as" : Str).length = 3 := by decide +kernel
      have li : ("in." : Str).length = 3 := by decide +kernel
      -- the odd values
      refine ⟨_, rfl, q, _, _, _, rfl, rfl, q5, nm0, _, rfl, q, _, _, _, rfl, rfl, q5, nm0, _, _, rfl, rfl, by rw [ld, sizeLine_eq]; omega, ?_⟩
      refine ⟨_, rfl, q, _, _, _, rfl, rfl, q5, nm0, _, _, rfl, rfl, by rw [ld, sizeLine_eq]; omega, _, rfl, q, _, _, _, rfl, rfl, q5, nm0, _, _, rfl, rfl, by rw [la, sizeLine_eq]; omega, ?_⟩
      refine ⟨(by show 0 ≤ sizeLine; decide), fun e1 h1 => ⟨(by show 0 ≤ sizeLine; decide), fun e2 h2 => fun e3 h3 => ⟨_, rfl, (by show 12 ≤ sizeLine; decide), fun O hO => ?_⟩⟩⟩
      have s1' := same_new (o := .lst []) h1
      have s2' := same_new (o := .tup []) h2
      have s3' := same_new (o := .dK []) h3
      have sO := same_new (o := .lst [.non, .int 5, .bl true, .str "", .str nm, .str (nm ++ "."), .str ("." ++ nm), .str (nm ++ ".as"), .ref e1, .ref e2, .ref e3, .ref S]) hO
      have S5O := ((s1'.trans s2').trans s3').trans sO
      have n1 := dr_new D5 h1
      have n2 := dr_new (D5.same s1') h2
      have n3 := dr_new ((D5.same s1').same s2') h3
      have nO := dr_new (((D5.same s1').same s2').same s3') hO
      have hO6 : (upd (upd (upd (upd H5 e1 (.lst [])) e2 (.tup [])) e3 (.dK [])) O (.lst [.non, .int 5, .bl true, .str "", .str nm, .str (nm ++ "."), .str ("." ++ nm), .str (nm ++ ".as"), .ref e1, .ref e2, .ref e3, .ref S])) O = some (.lst [.non, .int 5, .bl true, .str "", .str nm, .str (nm ++ "."), .str ("." ++ nm), .str (nm ++ ".as"), .ref e1, .ref e2, .ref e3, .ref S]) := upd_same
      have g1 := (s2'.trans s3').trans sO _ _ (upd_same (H := H5) (a := e1) (o := .lst []))
      have g2 := s3'.trans sO _ _ (upd_same (H := upd H5 e1 (.lst [])) (a := e2) (o := .tup []))
      have g3 := sO _ _ (upd_same (H := upd (upd H5 e1 (.lst [])) e2 (.tup [])) (a := e3) (o := .dK []))
      have D6 := D5.same S5O
      have hS6 := S5O _ _ hS5
      have hq6 := S5O _ _ hq5
      generalize upd (upd (upd (upd H5 e1 (.lst [])) e2 (.tup [])) e3 (.dK [])) O (.lst [.non, .int 5, .bl true, .str "", .str nm, .str (nm ++ "."), .str ("." ++ nm), .str (nm ++ ".as"), .ref e1, .ref e2, .ref e3, .ref S]) = H6 at S5O hO6 g1 g2 g3 D6 hS6 hq6
      have hpa : ∀ z ∈ ps, Asc z := fun z hz => (hps z hz).a
      have oS : Odd K d g H6 (.ref S) := odd_lst hS6 hpa nS.1 nS.2.1
      have oT : ∀ z ∈ odds nm, Odd K d g H6 (.str z) := fun z hz => odd_str (odds_no n0 z hz) (odds_asc n0 z hz).2
      -- .. + ['in.' + name]
      refine ⟨_, rfl, _, rfl, q, _, _, _, rfl, rfl, .inl (.inl hq6), nm0, _, _, rfl, rfl, by rw [li, sizeLine_eq]; omega, ?_⟩
      refine ⟨(by show 1 ≤ sizeLine; decide), fun p6 h6 => ?_⟩
      have s6 := same_new (o := .lst [.str ("in." ++ nm)]) h6
      refine ⟨O, p6, _, _, rfl, rfl, s6 _ _ hO6, upd_same, (by show 12 + 1 ≤ sizeLine; decide), fun O2 hO2 => ?_⟩
      generalize eod : ([.non, .int 5, .bl true, .str "", .str nm, .str (nm ++ "."), .str ("." ++ nm), .str (nm ++ ".as"), .ref e1, .ref e2, .ref e3, .ref S] : List V) ++ [.str ("in." ++ nm)] = od
      have lod : od.length = 13 := by rw [← eod]; rfl
      have hod : ∀ v ∈ od, Odd K d g H6 v := by
        intro v hv
        rw [← eod] at hv
        simp only [List.cons_append, List.nil_append, List.mem_cons, List.not_mem_nil, or_false] at hv
        rcases hv with rfl | rfl | rfl | rfl | rfl | rfl | rfl | rfl | rfl | rfl | rfl | rfl | rfl
        · exact odd_non
        · exact odd_int 5
        · exact odd_bl true
        · exact oT _ (by simp [odds])
        · exact oT _ (by simp [odds])
        · exact oT _ (by simp [odds])
        · exact oT _ (by simp [odds])
        · exact oT _ (by simp [odds])
        · exact odd_lst (l := []) g1 (fun z hz => nomatch hz) n1.1 n1.2.1
        · exact odd_tup g2 n2.1 n2.2.1
        · exact odd_dK g3 n3.1 n3.2.1
        · exact oS
        · exact oT _ (by simp [odds])
      have nO2 := dr_new (D6.same s6) hO2
      have s7 := s6.trans (same_new (o := .lst od) hO2)
      have D7 := D6.same s7
      have hO7 : (upd (upd H6 p6 (.lst [.str ("in." ++ nm)])) O2 (.lst od)) O2 = some (.lst od) := upd_same
      have hod7 : ∀ v ∈ od, Odd K d g (upd (upd H6 p6 (.lst [.str ("in." ++ nm)])) O2 (.lst od)) v := fun v hv => (hod v hv).mv (Mv.same s7)
      have hS7 := s7 _ _ hS6
      have hq7 := s7 _ _ hq6
      generalize upd (upd H6 p6 (.lst [.str ("in." ++ nm)])) O2 (.lst od) = H7 at s7 D7 hO7 hod7 hS7 hq7
      -- some of the paths exchanged
      refine ⟨_, rfl, S, _, rfl, .inl (.inl (.inl hS7)), fun W hW => ?_⟩
      have sW := same_new (o := .lst (ps.map V.str)) hW
      have nW := dr_new D7 hW
      refine ⟨_, rfl, d, g, c, _, _, rfl, D7.same sW, by omega, by decide, by decide, fun r H8 r0' r1' D8 mv8 => ?_⟩
      obtain ⟨m, rfl⟩ := Int.eq_ofNat_of_zero_le r0'
      refine ⟨_, rfl, by omega, by omega, ?_⟩
      have hW8 : H8 W = some (.lst (ps.map V.str)) := mv8 _ _ nW.1 nW.2.1 upd_same
      refine for_range (lo := 0) (n := m) (fun j σ H9 => ∃ (ws : List V) (v4 : Option V), σ = [some (.ref a), some (.ref d), some (.int (0 + (i : Int))), some (.ref q), v4, some (.ref S), some (.ref O2), some (.ref W), v8, v9, v10, v11, v12, v13, v14, v15, v16] ∧
          ws.length = ps.length ∧ H9 W = some (.lst ws) ∧ (∀ jj v, ws[jj]? = some v → (∃ z, ps[jj]? = some z ∧ v = .str z) ∨ v ∈ od) ∧ Dr H9 d g c (200 * i + 120 + 1 + 2 * 4 + 1 + 2 * j) ∧ Mv d g H7 H9)
        ⟨_, _, rfl, by rw [List.length_map], hW8, fun jj v hv => .inl (let ⟨z, hz, e⟩ := get_strs hv; ⟨z, hz, e⟩), D8.mono (by omega), (Mv.same sW).trans mv8⟩ ?_ ?_
      · rintro j σ H9 hj ⟨ws, v4, rfl, lw, hW9, hws, D9, mv9⟩
        refine ⟨_, rfl, (by show 0 ≤ sizeLine; decide), fun p0 h0 => ?_⟩
        have s0 := same_new (o := .lst []) h0
        refine ⟨W, p0, ws, rfl, rfl, .inl (.inl (s0 _ _ hW9)), .inl (.inl upd_same), _, rfl, ?_⟩
        cases ews : ws.isEmpty with
        | true => exact iteF ⟨ws, _, rfl, lw, s0 _ _ hW9, hws, (D9.same s0).mono (by omega), mv9.trans (Mv.same s0)⟩
        | false =>
          refine iteT ?_
          have hpos : 0 < ws.length := by
            cases ws with
            | nil => cases ews
            | cons _ _ => simp
          refine ⟨_, rfl, _, rfl, d, g, c, _, D9.same s0, by omega, .inr ⟨O2, _, rfl, s0 _ _ (mv9 _ _ nO2.1 nO2.2.1 hO7), nO2.2.1, by omega, by omega, fun x H10 hx D10 mv10 => ?_⟩⟩
          have hW10 := mv10 _ _ nW.1 nW.2.1 (s0 _ _ hW9)
          refine ⟨_, rfl, _, rfl, _, rfl, _, ws.length, rfl, .inl ⟨_, .inl (.inl hW10), rfl⟩, d, g, c, _, _, rfl, D10, by omega, by omega, by omega, fun ix H11 i0 i1 D11 mv11 => ?_⟩
          obtain ⟨jx, rfl⟩ := Int.eq_ofNat_of_zero_le i0
          have hjx : jx < ws.length := by omega
          have hW11 := mv11 _ _ nW.1 nW.2.1 hW10
          refine ⟨W, ws, _, jx, rfl, rfl, hW11, ?_, ?_⟩
          · unfold ixN
            rw [if_pos i0, if_pos i1]; rfl
          · refine ⟨ws.set jx x, _, rfl, by rw [List.length_set]; exact lw, upd_same, fun jj v hv => ?_, (D11.upd nW).mono (by omega), (((mv9.trans (Mv.same s0)).trans mv10).trans mv11).put hW⟩
            by_cases e : jx = jj
            · subst e
              rw [List.getElem?_set_self hjx] at hv
              rw [← Option.some.inj hv]
              exact .inr hx
            · rw [List.getElem?_set_ne e] at hv
              exact hws jj v hv
      rintro σ H9 ⟨ws, v4, rfl, lw, hW9, hws, D9, mv9⟩
      have od9 : ∀ v ∈ od, Odd K d g H9 v := fun v hv => (hod7 v hv).mv mv9
      have hS9 := mv9 _ _ nS.1 nS.2.1 hS7
      have ps4 : ps.length ≤ 4 := by omega
      -- where they differ
      refine ⟨_, rfl, _, ws.length, rfl, .inl ⟨_, .inl (.inl hW9), rfl⟩, _, rfl, by omega, by omega, fun B hB => ?_⟩
      have ix : ∀ {xs : List V} {n : Nat} {v : V}, xs[n]? = some v → atI xs (0 + (n : Int)) = some v := fun {xs n v} h => by rw [Int.zero_add]; exact atI_nat h
      refine lc_range (lo := 0) (n := ws.length) (fun j H10 => H10 = upd H9 B (.lst (((List.range j).filter fun x => decide (ws[x]? ≠ (ps[x]?).map V.str)).map fun x => V.int (x : Nat)))) rfl ?_ ?_
      · rintro j H10 hj rfl
        have sB := same_new (o := .lst (((List.range j).filter fun x => decide (ws[x]? ≠ (ps[x]?).map V.str)).map fun x => V.int (x : Nat))) hB
        have hjp : j < ps.length := by omega
        have ew : ws[j]? = some ws[j] := List.getElem?_eq_getElem hj
        have ep : ps[j]? = some ps[j] := List.getElem?_eq_getElem hjp
        have eps : (ps.map V.str)[j]? = some (.str ps[j]) := by rw [List.getElem?_map, ep]; rfl
        have hpj : Pth ps[j] := hps _ (List.getElem_mem hjp)
        have er : (List.range (j + 1)).filter (fun x => decide (ws[x]? ≠ (ps[x]?).map V.str)) = (List.range j).filter (fun x => decide (ws[x]? ≠ (ps[x]?).map V.str)) ++ (if decide (ws[j]? ≠ (ps[j]?).map V.str) = true then [j] else []) := by
          rw [List.range_succ, List.filter_append]
          congr 1
          exact fl_one _ _
        refine ⟨rfl, ?_⟩
        refine ⟨_, rfl, _, rfl, W, _, _, _, rfl, rfl, .inl (.inl (sB _ _ hW9)), ix ew, _, rfl, _, rfl, S, _, _, _, rfl, rfl, .inl (.inl (sB _ _ hS9)), ix eps, ?_⟩
        rcases hws j _ ew with ⟨z, hz, e⟩ | ho
        · rw [ep] at hz
          have ez : ws[j] = .str ps[j] := by rw [e, Option.some.inj hz]
          rw [ez]
          refine .inl ⟨rfl, _, rfl, iteNS rfl ?_⟩
          rw [er, if_neg (by rw [ew, ep, ez]; simp), List.append_nil]
        · have o := (od9 _ ho) _ (Mv.same sB)
          refine o.2.2.2 ps[j] _ hpj ⟨_, rfl, iteT ⟨_, rfl, _, upd_same, small1000 ?_, ?_⟩⟩
          · rw [List.length_map]
            have := List.length_filter_le (fun x => decide (ws[x]? ≠ (ps[x]?).map V.str)) (List.range j)
            rw [List.length_range] at this
            omega
          · have ne : ws[j] ≠ .str ps[j] := fun e => by
              have q := o.2.2.1
              rw [e, show ans isP (.str ps[j]) = isP ps[j] from rfl, hpj.p] at q
              cases q
            rw [upd_upd, er, if_pos (by rw [ew, ep]; simpa using ne), List.map_append, Int.zero_add]; rfl
      rintro H10 rfl
      have sB := same_new (o := .lst (((List.range ws.length).filter fun x => decide (ws[x]? ≠ (ps[x]?).map V.str)).map fun x => V.int (x : Nat))) hB
      have hB10 : (upd H9 B (.lst (((List.range ws.length).filter fun x => decide (ws[x]? ≠ (ps[x]?).map V.str)).map fun x => V.int (x : Nat)))) B = some (.lst (((List.range ws.length).filter fun x => decide (ws[x]? ≠ (ps[x]?).map V.str)).map fun x => V.int (x : Nat))) := upd_same
      generalize upd H9 B (.lst (((List.range ws.length).filter fun x => decide (ws[x]? ≠ (ps[x]?).map V.str)).map fun x => V.int (x : Nat))) = H10 at sB hB10
      generalize ebd : (List.range ws.length).filter (fun x => decide (ws[x]? ≠ (ps[x]?).map V.str)) = bd at hB10
      have D10 := D9.same sB
      have mv10 := mv9.trans (Mv.same sB)
      have hW10 := sB _ _ hW9
      have hS10 := sB _ _ hS9
      have args : ∀ v ∈ ws, Arg K H10 v := fun v hv => by
        obtain ⟨j, hj⟩ := List.mem_iff_getElem?.mp hv
        rcases hws j v hj with ⟨z, hz, rfl⟩ | ho
        · exact .inl ⟨z, rfl, (hps z (List.mem_of_getElem? hz)).l⟩
        · exact ((od9 v ho) _ (Mv.same sB)).2.1
      refine ⟨fun σ H11 => σ = [some (.ref a), some (.ref d), some (.int (0 + (i : Int))), some (.ref q), v4, some (.ref S), some (.ref O2), some (.ref W), some (.ref B), v9, v10, v11, v12, v13, v14, v15, v16] ∧ Same H10 H11, ?_, ?_⟩
      · -- refused as it should be
        have dpA : ∀ {H : Hp} (l : List Nat), DpAll K H (l.map fun (x : Nat) => V.int x) (l.map fun (x : Nat) => PyData.int x) := fun {H} l => by
          induction l with
          | nil => exact .nil
          | cons y r ih => exact .cons (.int _) ih
        have shB : ∀ l : List Nat, SeqAt.shaped (.list (l.map fun (x : Nat) => PyData.int x)) = true := fun l => by
          have e1 : ∀ l : List Nat, PyData.canLayAll0 (l.map fun (x : Nat) => PyData.int x) = true := fun l => by
            induction l with
            | nil => rfl
            | cons y r ih => simp [PyData.canLayAll0, PyData.canLay0, ih]
          have e2 : ∀ l : List Nat, PyData.depthAll (l.map fun (x : Nat) => PyData.int x) = 0 := fun l => by
            induction l with
            | nil => rfl
            | cons y r ih => simp [PyData.depthAll, PyData.depth, ih]
          simp [SeqAt.shaped, PyData.canLay0, PyData.depth, e1 l, e2 l]
        refine ⟨_, rfl, W, ws, rfl, hW10, by omega, args, ?_⟩
        match bd, ebd, hB10 with
        | [], ebd, hB10 =>
          have all : ws = ps.map V.str := by
            refine List.ext_getElem? fun j => ?_
            by_cases hj : j < ws.length
            · have q := List.filter_eq_nil_iff.mp ebd j (List.mem_range.mpr hj)
              rw [List.getElem?_map]
              simpa using q
            · rw [List.getElem?_eq_none (by omega), List.getElem?_eq_none (by rw [List.length_map]; omega)]
          refine .inl ⟨ps, all, hps, fun H11 s11 => ?_⟩
          refine ⟨_, _, rfl, rfl, (fun i z => by cases z), ?_⟩
          refine ⟨_, rfl, (by show 0 ≤ sizeLine; decide), fun p0 h0 => ?_⟩
          have s0 := same_new (o := .lst []) h0
          refine ⟨_, _, .lst (.inl (.inl (s0 _ _ (s11 _ _ hB10)))) (dpA []), .lst (.inl (.inl upd_same)) .nil, shB [], rfl, _, rfl, iteF ?_⟩
          exact ⟨_, _, rfl, rfl, (fun i z => by cases z), rfl, _, rfl, iteNS rfl ⟨rfl, s11.trans s0⟩⟩
        | b :: r, ebd, hB10 =>
          have hb : b ∈ (List.range ws.length).filter fun x => decide (ws[x]? ≠ (ps[x]?).map V.str) := by rw [ebd]; exact List.mem_cons.mpr (.inl rfl)
          have hb1 := List.mem_range.mp (List.mem_filter.mp hb).1
          have hb2 : ws[b]? ≠ (ps[b]?).map V.str := by simpa using (List.mem_filter.mp hb).2
          have oddW : ∀ (j : Nat) (v : V), ws[j]? = some v → ws[j]? ≠ (ps[j]?).map V.str → ans isP v = false := fun j v hv hne => by
            rcases hws j v hv with ⟨z, hz, rfl⟩ | ho
            · exact absurd (by rw [hv, hz]; rfl) hne
            · exact ((od9 v ho) _ (Mv.refl _ _ _)).2.2.1
          have fb : FirstBad ws b := by
            refine ⟨ws[b], List.getElem?_eq_getElem hb1, oddW b _ (List.getElem?_eq_getElem hb1) hb2, fun j y hj hy => ?_⟩
            have hjn : ¬ (ws[j]? ≠ (ps[j]?).map V.str) := fun q => by
              have hm : j ∈ b :: r := by
                rw [← ebd]
                exact List.mem_filter.mpr ⟨List.mem_range.mpr (by omega), by simpa using q⟩
              have pw : (b :: r).Pairwise (· < ·) := by rw [← ebd]; exact List.Pairwise.filter _ List.pairwise_lt_range
              rcases List.mem_cons.mp hm with e | hm
              · omega
              · have := (List.pairwise_cons.mp pw).1 j hm
                omega
            have e := Decidable.not_not.mp hjn
            have hjp : j < ps.length := by omega
            rw [hy, List.getElem?_eq_getElem hjp] at e
            rw [Option.some.inj e]
            exact (hps _ (List.getElem_mem hjp)).p
          refine .inr ⟨b, fb, fun H11 s11 => ?_⟩
          have lg : (b : Int).natAbs.log2 < 1920 := log4 b (List.mem_range.mpr (by omega))
          refine ⟨_, _, rfl, rfl, (fun i z => by cases z; exact lg), ?_⟩
          refine ⟨_, rfl, (by show 0 ≤ sizeLine; decide), fun p0 h0 => ?_⟩
          have s0 := same_new (o := .lst []) h0
          refine ⟨_, _, .lst (.inl (.inl (s0 _ _ (s11 _ _ hB10)))) (dpA (b :: r)), .lst (.inl (.inl upd_same)) .nil, shB (b :: r), rfl, _, rfl, iteT ?_⟩
          refine ⟨_, rfl, B, _, _, _, rfl, rfl, .inl (.inl (s0 _ _ (s11 _ _ hB10))), atI_nat (j := 0) rfl, ?_⟩
          exact ⟨_, _, rfl, rfl, (fun i z => by cases z; exact lg), rfl, _, rfl, iteNS rfl ⟨rfl, s11.trans s0⟩⟩
      · rintro σ H11 ⟨rfl, s11⟩
        have hS11 := s11 _ _ hS10
        have D11 := D10.same s11
        have mv11 := mv10.trans (Mv.same s11)
        -- the set
        refine ⟨_, rfl, S, _, rfl, hS11, by rw [List.length_map]; exact ps4, fun x hx => ?_, .inl ⟨ps, rfl, hps, fun X ys H12 N s12 mem le => ?_⟩⟩
        · obtain ⟨z, hz, rfl⟩ := List.mem_map.mp hx
          exact .inl ⟨z, rfl, (hps z hz).l⟩
        refine ⟨(by show 0 ≤ sizeLine; decide), fun Du hDu => ⟨(by show 2 ≤ sizeLine; decide), fun t0 ht0 => ?_⟩⟩
        have sD := same_new (o := .lst []) hDu
        have sT := same_new (o := .tup [.ref X, .ref Du]) ht0
        have S13 := (s12.trans sD).trans sT
        have N13 := (N.same sD).same sT
        have hDu13 := sT _ _ (upd_same (H := H12) (a := Du) (o := .lst []))
        refine ⟨t0, _, rfl, .inl (.inl upd_same), rfl, _, _, rfl, _, _, rfl, rfl, ?_⟩
        generalize upd (upd H12 Du (.lst [])) t0 (.tup [.ref X, .ref Du]) = H13 at S13 N13 hDu13
        -- what is due
        refine ⟨_, rfl, S, ps, rfl, .inl (.inl (S13 _ _ hS11)), by omega, fun ss L pm so hL => ?_⟩
        have sL := same_new (o := .lst (ss.map V.str)) hL
        refine ⟨L, rfl, ⟨_, .inl (.inl upd_same)⟩, ?_⟩
        have sp := srt_pair ss so
        refine for_list (K := K) (a := L) (xs := ss.map V.str) (fun j σ H14 => ∃ (E1 : Addr) (due : List Str) (v11 : Option V), σ = [some (.ref a), some (.ref d), some (.int (0 + (i : Int))), some (.ref q), v4, some (.ref S), some (.ref O2), some (.ref W), some (.ref B), some (.ref X), some (.ref E1), v11, v12, v13, v14, v15, v16] ∧
            H14 E1 = some (.lst (due.map V.str)) ∧ Ris due ∧ (∀ z, z ∈ due ↔ z ∈ ss.take j) ∧ Same (upd H13 L (.lst (ss.map V.str))) H14 ∧ E1 ≠ d ∧ E1 ≠ g)
          ⟨Du, [], _, rfl, sL _ _ hDu13, .nil, by simp, Same.refl _, (dr_new (D11.same s12) hDu).1, (dr_new (D11.same s12) hDu).2.1⟩ (fun j σ H14 _ ⟨_, _, _, _, _, _, _, s14, _⟩ => .inl (.inl (s14 _ _ upd_same))) ?_ ?_
        · rintro j x σ H14 hx ⟨E1, due, v11, rfl, hE1, ris, mm, s14, nE1⟩
          obtain ⟨z, hz, rfl⟩ := get_strs hx
          obtain ⟨r1, m1⟩ := put1_ris sp hz ris mm
          refine ⟨_, rfl, _, rfl, in_reads hE1 ⟨_, rfl, ?_⟩⟩
          by_cases e : z ∈ due
          · rw [decide_eq_true e]
            unfold put1 at r1 m1
            rw [if_pos e] at r1
            simp only [if_pos e] at m1
            exact iteT ⟨_, rfl, E1, due, _, rfl, hE1, r1, m1, s14, nE1⟩
          · rw [decide_eq_false e]
            unfold put1 at r1 m1
            rw [if_neg e] at r1
            simp only [if_neg e] at m1
            refine iteF ⟨_, rfl, _, rfl, (by show 1 ≤ sizeLine; decide), fun p1 h1' => ?_⟩
            have s15 := same_new (o := .lst [.str z]) h1'
            refine ⟨E1, p1, _, _, rfl, rfl, s15 _ _ hE1, upd_same, ?_, fun p2 h2' => ?_⟩
            · have h1 := nodup_len due ss (ris_nodup ris) fun y hy => List.mem_of_mem_take ((mm y).mp hy)
              have h2 := pm.length_eq
              rw [List.length_map, sizeLine_eq]
              show due.length + 1 ≤ _
              omega
            · exact ⟨p2, due ++ [z], _, rfl, by rw [upd_same, List.map_append]; rfl, r1, m1, (s14.trans s15).trans (same_new h2'), (dr_new (((((D11.same S13).same sL).same s14).same s15)) h2').1, (dr_new (((((D11.same S13).same sL).same s14).same s15)) h2').2.1⟩
        rintro σ H14 ⟨E1, due, v11, rfl, hE1, ris, mm, s14, nE1⟩
        rw [List.length_map, List.take_length] at mm
        have edue : due = ys := ris_eq ris N.ris fun z => by rw [mm, pm.mem_iff, mem]
        subst edue
        have S14 := (S13.trans sL).trans s14
        have N14 := (N13.same sL).same s14
        have D14 := D11.same S14
        have mv14 := mv11.trans (Mv.same S14)
        have hO14 := mv14 _ _ nO2.1 nO2.2.1 hO7
        have hS14 := mv14 _ _ nS.1 nS.2.1 hS7
        have hq14 := mv14 _ _ nq.1 nq.2.1 hq7
        have dl4 : due.length ≤ 4 := by
          have := nodup_len due ps (ris_nodup N.ris) fun z hz => (mem z).mp hz
          omega
        -- the others
        refine ⟨_, rfl, _, rfl, O2, S, _, _, rfl, rfl, hO14, hS14, by rw [List.length_map, sizeLine_eq]; omega, fun p1 h1' => ?_⟩
        have s15 := same_new (o := .lst (od ++ ps.map V.str)) h1'
        refine ⟨_, rfl, _, rfl, d, g, c, q, _, l, rfl, D14.same s15, by omega, s15 _ _ hq14, nq.1, nq.2.1, by omega, by omega, hN, fun x1 y1 H16 hx1 hy1 D16 mv16 => ?_⟩
        refine ⟨_, rfl, _, rfl, d, g, c, q, _, l, rfl, D16, by omega, mv16 _ _ nq.1 nq.2.1 (s15 _ _ hq14), nq.1, nq.2.1, by omega, by omega, hN, fun x2 y2 H17 hx2 hy2 D17 mv17 => ?_⟩
        have n15 := dr_new D14 h1'
        have mv17' := (mv14.trans (Mv.same s15)).trans (mv16.trans mv17)
        have hS17 := mv17' _ _ nS.1 nS.2.1 hS7
        have hp17 := (mv16.trans mv17) _ _ n15.1 n15.2.1 (upd_same (H := H14) (a := p1) (o := .lst (od ++ ps.map V.str)))
        have N17 := (N14.same s15).mv (D14.same s15) (mv16.trans mv17)
        have hE17 := (mv16.trans mv17) _ _ nE1.1 nE1.2 (s15 _ _ hE1)
        refine ⟨_, rfl, S, _, rfl, .inl ⟨.inl (.inl hS17), fun t1 ht1 => ?_⟩⟩
        have s18 := same_new (o := .tup (ps.map V.str)) ht1
        refine ⟨(by show 3 ≤ sizeLine; decide), fun p2 h2' => ?_⟩
        have s19 := s18.trans (same_new (o := .lst [.str (x1 ++ "." ++ y1), .str (x2 ++ "." ++ y2), .ref t1]) h2')
        refine ⟨p1, p2, _, _, rfl, rfl, s19 _ _ hp17, upd_same, ?_, fun Ot hOt => ?_⟩
        · rw [List.length_append, List.length_map, sizeLine_eq]
          show od.length + ps.length + 3 ≤ _
          omega
        have sOt := same_new (o := .lst ((od ++ ps.map V.str) ++ [.str (x1 ++ "." ++ y1), .str (x2 ++ "." ++ y2), .ref t1])) hOt
        have sP2 := same_new (o := .lst [.str (x1 ++ "." ++ y1), .str (x2 ++ "." ++ y2), .ref t1]) h2'
        have s20 := s19.trans sOt
        have mv20 := mv17'.trans (Mv.same s20)
        have N20 := N17.same s20
        have ar20 : ∀ v ∈ (od ++ ps.map V.str) ++ [.str (x1 ++ "." ++ y1), .str (x2 ++ "." ++ y2), .ref t1], Arg K (upd (upd (upd H17 t1 (.tup (ps.map V.str))) p2 (.lst [.str (x1 ++ "." ++ y1), .str (x2 ++ "." ++ y2), .ref t1])) Ot (.lst ((od ++ ps.map V.str) ++ [.str (x1 ++ "." ++ y1), .str (x2 ++ "." ++ y2), .ref t1]))) v := by
          intro v hv
          rcases List.mem_append.mp hv with hv | hv
          · rcases List.mem_append.mp hv with hv | hv
            · exact ((hod7 v hv) _ mv20).2.1
            · obtain ⟨z, hz, rfl⟩ := List.mem_map.mp hv
              exact .inl ⟨z, rfl, (hps z hz).l⟩
          · simp only [List.mem_cons, List.not_mem_nil, or_false] at hv
            rcases hv with rfl | rfl | rfl
            · exact .inl ⟨_, rfl, (pth_of (hN x1 hx1) (hN y1 hy1)).l⟩
            · exact .inl ⟨_, rfl, (pth_of (hN x2 hx2) (hN y2 hy2)).l⟩
            · have ht := (sP2.trans sOt) _ _ (upd_same (H := H17) (a := t1) (o := .tup (ps.map V.str)))
              exact .inr ⟨_, .base (.tup ht), kit_ty (by decide +kernel)⟩
        refine ⟨_, rfl, _, rfl, _, rfl, X, E1, Ot, due, _, rfl, N20, s20 _ _ hE17, upd_same, dl4, ar20, fun H21 s21 => ⟨_, rfl, iteF ?_⟩⟩
        -- made == set(some[::-1]), made == set(due)
        have N21 := N20.same s21
        have mv21 := mv20.trans (Mv.same s21)
        have hS21 := mv21 _ _ nS.1 nS.2.1 hS7
        have hE21 := s21 _ _ (s20 _ _ hE17)
        have D21 := (D17.same s20).same s21
        have argP : ∀ {H : Hp} (l : List Str), (∀ z ∈ l, Pth z) → ∀ x ∈ l.map V.str, Arg K H x := fun {H} l hl x hx => by
          obtain ⟨z, hz, rfl⟩ := List.mem_map.mp hx
          exact .inl ⟨z, rfl, (hl z hz).l⟩
        have dueP : ∀ z ∈ due, Pth z := fun z hz => hps z ((mem z).mp hz)
        refine ⟨_, rfl, _, rfl, S, _, rfl, .inl (.inl hS21), fun Rv hRv => ?_⟩
        have sR := same_new (o := .lst (ps.map V.str).reverse) hRv
        refine ⟨Rv, _, rfl, upd_same, by rw [List.length_reverse, List.length_map]; exact ps4, fun x hx => argP ps hps x (List.mem_reverse.mp hx), .inl ⟨ps.reverse, by rw [List.map_reverse], fun z hz => hps z (List.mem_reverse.mp hz), fun Y zs H22 M s22 m2 le2 => ?_⟩⟩
        have S22 := sR.trans s22
        have N22 := N21.same S22
        obtain ⟨xd, xt, xa, xb⟩ := N22.at_
        obtain ⟨yd, yt, ya, yb⟩ := M.at_
        have e22 : due = zs := ris_eq N.ris M.ris fun z => by rw [mem, m2, List.mem_reverse]
        refine ⟨X, xd, _, rfl, xa, .inl ⟨Y, yd, _, rfl, ya⟩, X, due, _, rfl, N22, .inl ⟨Y, zs, rfl, M, _, rfl, _, rfl, ?_⟩⟩
        rw [decide_eq_true e22]
        refine iteF ?_
        have hE22 := S22 _ _ hE21
        refine ⟨_, rfl, _, rfl, E1, _, rfl, hE22, by rw [List.length_map]; exact dl4, argP due dueP, .inl ⟨due, rfl, dueP, fun Y2 zs2 H23 M2 s23 m3 le3 => ?_⟩⟩
        have N23 := N22.same s23
        obtain ⟨xd3, xt3, xa3, xb3⟩ := N23.at_
        obtain ⟨yd3, yt3, ya3, yb3⟩ := M2.at_
        have e23 : due = zs2 := ris_eq N.ris M2.ris fun z => (m3 z).symm
        refine ⟨X, Y2, xd3, yd3, _, _, rfl, rfl, xa3, ya3, X, due, _, rfl, N23, .inl ⟨Y2, zs2, rfl, M2, _, rfl, _, rfl, ?_⟩⟩
        rw [decide_eq_true e23]
        refine iteF ?_
        have S23 := (s21.trans S22).trans s23
        have mv23 := mv20.trans (Mv.same S23)
        have hq23 := mv23 _ _ nq.1 nq.2.1 hq7
        have hE23 := s23 _ _ hE22
        have D23 := (D17.same s20).same S23
        -- a path that is not in it
        refine ⟨abcS, rfl, fun Fl hFl => ?_⟩
        refine lc_it walk_str (fun j H24 => H24 = upd H23 Fl (.lst (((tl abcS).take j).map fun c => V.str (nm ++ "." ++ (⟨#[c]⟩ : Str))))) rfl (fun _ _ _ _ => trivial) ?_ ?_
        · rintro j x H24 H25 hj rfl ⟨rfl, ch, hch, rfl⟩
          have hch2 : (tl abcS)[j]? = some ch := by simpa using hch
          refine ⟨rfl, ?_⟩
          refine ⟨_, rfl, q, _, _, _, rfl, rfl, .inl (.inl (same_new hFl _ _ hq23)), nm0, _, _, rfl, rfl, by rw [ld, sizeLine_eq]; omega, _, rfl, _, _, rfl, rfl, ?_, _, upd_same, ?_, ?_⟩
          · have e2 : (nm ++ ("." : Str)).length = nm.length + 1 := by rw [len_tl, tl_append, List.length_append, ← len_tl, ← len_tl, ld]
            rw [e2, sizeLine_eq]
            show nm.length + 1 + 1 ≤ _
            omega
          · rw [List.length_map, List.length_take]
            exact small1000 (by have := abc_len; omega)
          · rw [upd_upd, takes hch2, List.map_append]; rfl
        rintro H24 rfl
        have ef : ((tl abcS).take abcS.cps.size).map (fun c => V.str (nm ++ "." ++ (⟨#[c]⟩ : Str))) = (frs5 nm).map V.str := by
          unfold frs5
          rw [show abcS.cps.size = (tl abcS).length by simp, List.take_length, List.map_map]; rfl
        rw [ef]
        have sF := same_new (o := .lst ((frs5 nm).map V.str)) hFl
        have hF24 : (upd H23 Fl (.lst ((frs5 nm).map V.str))) Fl = some (.lst ((frs5 nm).map V.str)) := upd_same
        have lf : (frs5 nm).length = 5 := by unfold frs5; rw [List.length_map, abc_len]
        generalize upd H23 Fl (.lst ((frs5 nm).map V.str)) = H24 at sF hF24
        have hE24 := sF _ _ hE23
        refine ⟨_, rfl, Fl, rfl, ⟨_, .inl (.inl hF24)⟩, fun G1 hG1 => ?_⟩
        refine lc_fil (K := K) (ev := frs5 nm) (fun z => !decide (z ∈ due)) (by omega) hF24 hG1 (fun _ => rfl) (fun _ => rfl) (fun z hz acc R h => ?_) ?_
        · exact ⟨_, rfl, _, rfl, notin_reads (same_new (o := .lst acc) hG1 _ _ hE24) ⟨_, rfl, h⟩⟩
        have hne := frs_new (n := nm) (l := due) dl4
        match efr : (frs5 nm).filter (fun z => !decide (z ∈ due)) with
        | [] => exact absurd efr hne
        | fr :: rr =>
          have hfr : fr ∈ (frs5 nm).filter (fun z => !decide (z ∈ due)) := by rw [efr]; exact List.mem_cons.mpr (.inl rfl)
          have hfr1 := frs_pth n0 fr (List.mem_filter.mp hfr).1
          have hfr2 : fr ∉ due := by simpa using (List.mem_filter.mp hfr).2
          refine ⟨G1, _, _, .str fr, rfl, rfl, .inl (.inl upd_same), atI_nat (j := 0) rfl, ?_⟩
          have sG := same_new (o := .lst ((fr :: rr).map V.str)) hG1
          generalize upd H24 G1 (.lst ((fr :: rr).map V.str)) = H25 at sG
          have S25 := (s23.trans sF).trans sG
          have N25 := N22.same S25
          have hE25 := sG _ _ hE24
          have S2125 := (s21.trans S22).trans S25
          refine ⟨fun σ H26 => σ = [some (.ref a), some (.ref d), some (.int (0 + (i : Int))), some (.ref q), v4, some (.ref S), some (.ref O2), some (.ref W), some (.ref B), some (.ref X), some (.ref E1), v11, some (.ref Ot), some (.str fr), v14, v15, v16] ∧ Same H25 H26, ?_, ?_⟩
          · refine ⟨_, rfl, _, due.length, rfl, .inl ⟨_, .inl (.inl hE25), by rw [List.length_map]⟩, _, _, rfl, rfl, _, rfl, ?_⟩
            by_cases hlt : due.length < 4
            · rw [decide_eq_true (show ((due.length : Nat) : Int) < 4 by omega)]
              refine iteT ?_
              refine ⟨_, rfl, _, rfl, _, rfl, (by show 1 ≤ sizeLine; decide), fun g1' hg1 => ?_⟩
              have sg := same_new (o := .lst [.str fr]) hg1
              refine ⟨E1, g1', _, _, rfl, rfl, sg _ _ hE25, upd_same, by rw [List.length_map, sizeLine_eq]; show due.length + 1 ≤ _; omega, fun g2' hg2 => ?_⟩
              have sg2 := sg.trans (same_new (o := .lst (due.map V.str ++ [.str fr])) hg2)
              have pf : ∀ z ∈ due ++ [fr], Pth z := fun z hz => by
                rcases List.mem_append.mp hz with hz | hz
                · exact dueP z hz
                · rw [List.mem_singleton.mp hz]; exact hfr1
              have em : due.map V.str ++ [V.str fr] = (due ++ [fr]).map V.str := by rw [List.map_append]; rfl
              refine ⟨g2', _, rfl, upd_same, by rw [em, List.length_map, List.length_append]; show due.length + 1 ≤ 4; omega, fun x hx => argP (due ++ [fr]) pf x (by rw [← em]; exact hx), .inl ⟨due ++ [fr], em, pf, fun Y3 zs3 H27 M3 s27 m4 le4 => ?_⟩⟩
              have S27 := sg2.trans s27
              have N27 := N25.same S27
              obtain ⟨xd4, xt4, xa4, xb4⟩ := N27.at_
              obtain ⟨yd4, yt4, ya4, yb4⟩ := M3.at_
              have ne : due ≠ zs3 := fun e => hfr2 (by rw [e, m4]; simp)
              refine ⟨X, xd4, _, rfl, xa4, .inl ⟨Y3, yd4, _, rfl, ya4⟩, X, due, _, rfl, N27, .inl ⟨Y3, zs3, rfl, M3, _, rfl, _, rfl, ?_⟩⟩
              rw [decide_eq_false ne]
              refine iteF ?_
              refine ⟨_, rfl, _, rfl, X, xd4, _, rfl, xa4, X, due, _, rfl, N27, .inl ⟨fr, rfl, hfr1.l⟩, _, rfl, _, rfl, ?_⟩
              rw [show ans (fun z => decide (z ∈ due)) (V.str fr) = false from decide_eq_false hfr2]
              exact iteF ⟨rfl, S27⟩
            · rw [decide_eq_false (show ¬ ((due.length : Nat) : Int) < 4 by omega)]
              exact iteF (iteF ⟨rfl, Same.refl _⟩)
          · rintro σ H26 ⟨rfl, s26⟩
            have N26 := N25.same s26
            have hE26 := s26 _ _ hE25
            have S2126 := S2125.trans s26
            have mv26 := mv20.trans (Mv.same S2126)
            have hO26 := mv26 _ _ nO2.1 nO2.2.1 hO7
            have D26 := (D17.same s20).same S2126
            have ec : cutV (due.map V.str) (some 1) none = (due.drop 1).map V.str := by
              rw [List.map_drop]
              unfold cutV
              rw [show HT.sIx (due.map V.str).length 0 (some 1) = min 1 (due.map V.str).length from HT.sIx_nat _ _ 1, HT.sIx_none]
              cases due with
              | nil => rfl
              | cons z r =>
                have e1 : min 1 ((z :: r).map V.str).length = 1 := by simp
                rw [e1, List.take_of_length_le (by rw [List.length_drop]; exact Nat.le_refl _)]
            -- less
            refine ⟨_, rfl, _, rfl, E1, _, rfl, .inl (.inl hE26), fun Lw hLw => ?_⟩
            rw [ec]
            have sLw := same_new (o := .lst ((due.drop 1).map V.str)) hLw
            have dropP : ∀ z ∈ due.drop 1, Pth z := fun z hz => dueP z (List.mem_of_mem_drop hz)
            refine ⟨Lw, _, rfl, upd_same, by rw [List.length_map, List.length_drop]; omega, argP _ dropP, .inl ⟨due.drop 1, rfl, dropP, fun Y4 zs4 H27 M4 s27 m5 le5 => ?_⟩⟩
            have S27 := sLw.trans s27
            have N27 := N26.same S27
            have hE27 := S27 _ _ hE26
            have hO27 := S27 _ _ hO26
            obtain ⟨xd5, xt5, xa5, xb5⟩ := N27.at_
            obtain ⟨yd5, yt5, ya5, yb5⟩ := M4.at_
            have mv27 := mv26.trans (Mv.same S27)
            -- odd + [made.paths, len(due)]
            refine ⟨_, rfl, _, rfl, X, _, xd5, _, _, rfl, xa5, T.cl_Names, T.at_Names_paths, rfl, _, rfl, _, due.length, rfl, .inl ⟨_, .inl (.inl hE27), by rw [List.length_map]⟩, (by show 2 ≤ sizeLine; decide), fun w1 hw1 => ?_⟩
            have sw1 := same_new (o := .lst [.ref xt5, .int (due.length : Nat)]) hw1
            refine ⟨O2, w1, _, _, rfl, rfl, sw1 _ _ hO27, upd_same, ?_, fun O3 hO3 => ?_⟩
            · rw [sizeLine_eq]; show od.length + 2 ≤ _; omega
            have sO3 := sw1.trans (same_new (o := .lst (od ++ [.ref xt5, .int (due.length : Nat)])) hO3)
            have hO3' : (upd (upd H27 w1 (.lst [.ref xt5, .int (due.length : Nat)])) O3 (.lst (od ++ [.ref xt5, .int (due.length : Nat)]))) O3 = some (.lst (od ++ [.ref xt5, .int (due.length : Nat)])) := upd_same
            generalize upd (upd H27 w1 (.lst [.ref xt5, .int (due.length : Nat)])) O3 (.lst (od ++ [.ref xt5, .int (due.length : Nat)])) = H28 at sO3 hO3'
            have N28 := N27.same sO3
            have M28 := M4.same sO3
            have hE28 := sO3 _ _ hE27
            have mv28 := mv27.trans (Mv.same sO3)
            have D28 := (D26.same S27).same sO3
            have ez : (due = zs4) ↔ (due = []) := by
              constructor
              · intro e
                cases due with
                | nil => rfl
                | cons z r =>
                  have h1 : z ∈ zs4 := by rw [← e]; simp
                  have h2 := (m5 z).mp h1
                  have h3 := ris_nodup N.ris
                  exact absurd h2 (List.nodup_cons.mp h3).1
              · intro e
                cases zs4 with
                | nil => exact e
                | cons z r =>
                  have := (m5 z).mp (by simp)
                  rw [e] at this
                  cases this
            have od28 : ∀ v ∈ od ++ [.ref xt5, .int (due.length : Nat)], ∀ H', Same H28 H' → ∃ Ty, TyB K H' v Ty := fun v hv H' s' => by
              rcases List.mem_append.mp hv with hv | hv
              · exact ((hod7 v hv) _ (mv28.trans (Mv.same s'))).1
              · simp only [List.mem_cons, List.not_mem_nil, or_false] at hv
                rcases hv with rfl | rfl
                · exact ⟨_, .tup (s' _ _ (sO3 _ _ xb5))⟩
                · exact ⟨_, .int _⟩
            refine ⟨_, rfl, _, rfl, X, xd5, _, rfl, sO3 _ _ xa5, .inl ⟨Y4, yd5, _, rfl, sO3 _ _ ya5⟩, X, due, _, rfl, N28, .inl ⟨Y4, zs4, rfl, M28, _, rfl, ?_⟩⟩
            refine ⟨_, rfl, (by show 0 ≤ sizeLine; decide), fun z0 hz0 => ?_⟩
            have sz0 := same_new (o := .lst []) hz0
            refine ⟨_, _, .lst (.inl (.inl (sz0 _ _ hE28))) (dp_strs due), .lst (.inl (.inl upd_same)) (dp_strs []), shaped_strs _ N.asc, rfl, rfl, _, rfl, ?_⟩
            have eb : (!decide (V.bl (decide (due = zs4)) = V.bl (PyData.eqv (.list (due.map PyData.str)) (.list (([] : List Str).map PyData.str))))) = false := by
              rw [eqv_lists]; simp [ez]
            rw [eb]
            refine iteF ?_
            refine ⟨_, rfl, O3, rfl, ⟨_, .inl (.inl (sz0 _ _ hO3'))⟩, fun Zz hZz => ?_⟩
            have sZ := sz0.trans (same_new (o := .lst []) hZz)
            refine lc_list (K := K) (fun j H' => H' = upd (upd H28 z0 (.lst [])) Zz (.lst [])) rfl (fun j H' _ e => by rw [e]; exact .inl (.inl (sZ _ _ hO3'))) ?_ ?_
            · rintro j x H' hx rfl
              obtain ⟨Ty, ht⟩ := od28 x (List.mem_of_getElem? hx) _ sZ
              refine ⟨rfl, ?_⟩
              exact ⟨_, rfl, _, rfl, X, xd5, _, rfl, sZ _ _ (sO3 _ _ xa5), .inr ⟨Ty, ht⟩, X, due, _, rfl, N28.same sZ, .inr ⟨Ty, ht, _, rfl, _, rfl, iteF rfl⟩⟩
            rintro H' rfl
            refine ⟨(by show 0 ≤ sizeLine; decide), fun z1 hz1 => ?_⟩
            have sz1 := same_new (o := .lst []) hz1
            refine ⟨_, _, .lst (.inl (.inl (sz1 _ _ upd_same))) .nil, .lst (.inl (.inl upd_same)) .nil, rfl, rfl, _, rfl, iteF ?_⟩
            exact ⟨_, _, _, _, _, _, _, _, _, _, _, _, _, _, _, rfl, ((D28.same sZ).same sz1).mono (by omega)⟩
    · rintro σ H2 ⟨v2, v3, v4, v5, v6, v7, v8, v9, v10, v11, v12, v13, v14, v15, v16, rfl, D2⟩
      exact k H2
end
end Sn

namespace Sn
open PySem PySem.Spec PyProof.Rows L2
theorem all_mk {l : PySem.W.OpenLaw} {w : World} {K : PySem.W.Frag} {h : Heap} {mg : Str → Option Value} {fa : Addr}
    {f_wall : Addr} {od_wall an_wall : Option Addr} {sl_wall : Array (Option Value)} {oc_wall kV_wall dc_wall pm_wall cd_wall ct_wall : Value}
    {f_is_word : Addr} {od_is_word an_is_word : Option Addr} {sl_is_word : Array (Option Value)} {oc_is_word kV_is_word dc_is_word pm_is_word cd_is_word ct_is_word : Value}
    {f_is_name : Addr} {od_is_name an_is_name : Option Addr} {sl_is_name : Array (Option Value)} {oc_is_name kV_is_name dc_is_name pm_is_name cd_is_name ct_is_name : Value}
    {f_is_path : Addr} {od_is_path an_is_path : Option Addr} {sl_is_path : Array (Option Value)} {oc_is_path kV_is_path dc_is_path pm_is_path cd_is_path ct_is_path : Value}
    {f_law_begun : Addr} {od_law_begun an_law_begun : Option Addr} {sl_law_begun : Array (Option Value)} {oc_law_begun kV_law_begun dc_law_begun pm_law_begun cd_law_begun ct_law_begun : Value}
    {f_law_mixed : Addr} {od_law_mixed an_law_mixed : Option Addr} {sl_law_mixed : Array (Option Value)} {oc_law_mixed kV_law_mixed dc_law_mixed pm_law_mixed cd_law_mixed ct_law_mixed : Value}
    {f_law_take : Addr} {od_law_take an_law_take : Option Addr} {sl_law_take : Array (Option Value)} {oc_law_take kV_law_take dc_law_take pm_law_take cd_law_take ct_law_take : Value}
    {f_law_pick : Addr} {od_law_pick an_law_pick : Option Addr} {sl_law_pick : Array (Option Value)} {oc_law_pick kV_law_pick dc_law_pick pm_law_pick cd_law_pick ct_law_pick : Value}
    {f_law_reserved : Addr} {od_law_reserved an_law_reserved : Option Addr} {sl_law_reserved : Array (Option Value)} {oc_law_reserved kV_law_reserved dc_law_reserved pm_law_reserved cd_law_reserved ct_law_reserved : Value}
    {f_law_any_word : Addr} {od_law_any_word an_law_any_word : Option Addr} {sl_law_any_word : Array (Option Value)} {oc_law_any_word kV_law_any_word dc_law_any_word pm_law_any_word cd_law_any_word ct_law_any_word : Value}
    {f_law_any_name : Addr} {od_law_any_name an_law_any_name : Option Addr} {sl_law_any_name : Array (Option Value)} {oc_law_any_name kV_law_any_name dc_law_any_name pm_law_any_name cd_law_any_name ct_law_any_name : Value}
    {f_law_names : Addr} {od_law_names an_law_names : Option Addr} {sl_law_names : Array (Option Value)} {oc_law_names kV_law_names dc_law_names pm_law_names cd_law_names ct_law_names : Value}
    {f_law_path : Addr} {od_law_path an_law_path : Option Addr} {sl_law_path : Array (Option Value)} {oc_law_path kV_law_path dc_law_path pm_law_path cd_law_path ct_law_path : Value}
    {f_law_set : Addr} {od_law_set an_law_set : Option Addr} {sl_law_set : Array (Option Value)} {oc_law_set kV_law_set dc_law_set pm_law_set cd_law_set ct_law_set : Value}
    {f_law_refused : Addr} {od_law_refused an_law_refused : Option Addr} {sl_law_refused : Array (Option Value)} {oc_law_refused kV_law_refused dc_law_refused pm_law_refused cd_law_refused ct_law_refused : Value}
    {f_law_right : Addr} {od_law_right an_law_right : Option Addr} {sl_law_right : Array (Option Value)} {oc_law_right kV_law_right dc_law_right pm_law_right cd_law_right ct_law_right : Value}
    {f_law : Addr} {od_law an_law : Option Addr} {sl_law : Array (Option Value)} {oc_law kV_law dc_law pm_law cd_law ct_law : Value}
    {t_LETTERS : Tok}
    {t_SIGNS : Tok}
    {t_MOST_SIGNS : Tok}
    {a_RESERVED : Addr} {od_RESERVED : Option Addr} {us_RESERVED : List Value} {nn_RESERVED : Nat} {sl_RESERVED : Array (Option Value)}
    {C_Names : Addr}
    {f_Names_init : Addr} {od_Names_init an_Names_init : Option Addr} {sl_Names_init : Array (Option Value)} {oc_Names_init kV_Names_init dc_Names_init pm_Names_init cd_Names_init ct_Names_init : Value}
    {f_Names_len : Addr} {od_Names_len an_Names_len : Option Addr} {sl_Names_len : Array (Option Value)} {oc_Names_len kV_Names_len dc_Names_len pm_Names_len cd_Names_len ct_Names_len : Value}
    {f_Names_bool : Addr} {od_Names_bool an_Names_bool : Option Addr} {sl_Names_bool : Array (Option Value)} {oc_Names_bool kV_Names_bool dc_Names_bool pm_Names_bool cd_Names_bool ct_Names_bool : Value}
    {f_Names_contains : Addr} {od_Names_contains an_Names_contains : Option Addr} {sl_Names_contains : Array (Option Value)} {oc_Names_contains kV_Names_contains dc_Names_contains pm_Names_contains cd_Names_contains ct_Names_contains : Value}
    {f_Names_eq : Addr} {od_Names_eq an_Names_eq : Option Addr} {sl_Names_eq : Array (Option Value)} {oc_Names_eq kV_Names_eq dc_Names_eq pm_Names_eq cd_Names_eq ct_Names_eq : Value}
    {C_SpareError : Addr}
    {C_BadPath : Addr}
    {fI_BadPath cda_BadPath cc_BadPath N_BadPath : Addr} {nm_BadPath q_BadPath : Str} {bs_BadPath bm_BadPath sub_BadPath : List Value} {sn_BadPath : List Str} {ab_BadPath : Bool} {col_BadPath : Option Bool} {dd_BadPath od_BadPath an_BadPath cdd_BadPath cld_BadPath : Option Addr} {k0_BadPath k1_BadPath k2_BadPath k3_BadPath k5_BadPath : Option Value}
    {oc_BadPath kV_BadPath doc_BadPath pm_BadPath ct_BadPath ccl_BadPath cl_BadPath : Value} {osl_BadPath ccs_BadPath csl_BadPath : Array (Option Value)} {vs_BadPath : Array Value} {file_BadPath : Str} {tf_BadPath : Tok}
    (X : K.In h) (G : h.Ns mainGlobals mg) (hfa : mg "law" = some (.ref fa))
    (a_wall : PySem.W.nsIn K mainGlobals "_wall" = some (some (.ref f_wall)))
    (l_wall : K.lookup f_wall = some ⟨oc_wall, od_wall, .func (PySem.W.fnOf "_wall" "_wall" (defArgs s_wall) (defBody s_wall) (defScope s_wall) .none kV_wall dc_wall pm_wall an_wall cd_wall ct_wall), sl_wall⟩)
    (c_wall : PySem.W.codeIn K cd_wall "_wall" = true)
    (k_wall : PySem.W.keepIn K (.ref f_wall) = true)
    (a_is_word : PySem.W.nsIn K mainGlobals "is_word" = some (some (.ref f_is_word)))
    (l_is_word : K.lookup f_is_word = some ⟨oc_is_word, od_is_word, .func (PySem.W.fnOf "is_word" "is_word" (defArgs s_is_word) (defBody s_is_word) (defScope s_is_word) .none kV_is_word dc_is_word pm_is_word an_is_word cd_is_word ct_is_word), sl_is_word⟩)
    (c_is_word : PySem.W.codeIn K cd_is_word "is_word" = true)
    (k_is_word : PySem.W.keepIn K (.ref f_is_word) = true)
    (a_is_name : PySem.W.nsIn K mainGlobals "is_name" = some (some (.ref f_is_name)))
    (l_is_name : K.lookup f_is_name = some ⟨oc_is_name, od_is_name, .func (PySem.W.fnOf "is_name" "is_name" (defArgs s_is_name) (defBody s_is_name) (defScope s_is_name) .none kV_is_name dc_is_name pm_is_name an_is_name cd_is_name ct_is_name), sl_is_name⟩)
    (c_is_name : PySem.W.codeIn K cd_is_name "is_name" = true)
    (k_is_name : PySem.W.keepIn K (.ref f_is_name) = true)
    (a_is_path : PySem.W.nsIn K mainGlobals "is_path" = some (some (.ref f_is_path)))
    (l_is_path : K.lookup f_is_path = some ⟨oc_is_path, od_is_path, .func (PySem.W.fnOf "is_path" "is_path" (defArgs s_is_path) (defBody s_is_path) (defScope s_is_path) .none kV_is_path dc_is_path pm_is_path an_is_path cd_is_path ct_is_path), sl_is_path⟩)
    (c_is_path : PySem.W.codeIn K cd_is_path "is_path" = true)
    (k_is_path : PySem.W.keepIn K (.ref f_is_path) = true)
    (a_law_begun : PySem.W.nsIn K mainGlobals "_law_begun" = some (some (.ref f_law_begun)))
    (l_law_begun : K.lookup f_law_begun = some ⟨oc_law_begun, od_law_begun, .func (PySem.W.fnOf "_law_begun" "_law_begun" (defArgs s_law_begun) (defBody s_law_begun) (defScope s_law_begun) .none kV_law_begun dc_law_begun pm_law_begun an_law_begun cd_law_begun ct_law_begun), sl_law_begun⟩)
    (c_law_begun : PySem.W.codeIn K cd_law_begun "_law_begun" = true)
    (k_law_begun : PySem.W.keepIn K (.ref f_law_begun) = true)
    (a_law_mixed : PySem.W.nsIn K mainGlobals "_law_mixed" = some (some (.ref f_law_mixed)))
    (l_law_mixed : K.lookup f_law_mixed = some ⟨oc_law_mixed, od_law_mixed, .func (PySem.W.fnOf "_law_mixed" "_law_mixed" (defArgs s_law_mixed) (defBody s_law_mixed) (defScope s_law_mixed) .none kV_law_mixed dc_law_mixed pm_law_mixed an_law_mixed cd_law_mixed ct_law_mixed), sl_law_mixed⟩)
    (c_law_mixed : PySem.W.codeIn K cd_law_mixed "_law_mixed" = true)
    (k_law_mixed : PySem.W.keepIn K (.ref f_law_mixed) = true)
    (a_law_take : PySem.W.nsIn K mainGlobals "_law_take" = some (some (.ref f_law_take)))
    (l_law_take : K.lookup f_law_take = some ⟨oc_law_take, od_law_take, .func (PySem.W.fnOf "_law_take" "_law_take" (defArgs s_law_take) (defBody s_law_take) (defScope s_law_take) .none kV_law_take dc_law_take pm_law_take an_law_take cd_law_take ct_law_take), sl_law_take⟩)
    (c_law_take : PySem.W.codeIn K cd_law_take "_law_take" = true)
    (k_law_take : PySem.W.keepIn K (.ref f_law_take) = true)
    (a_law_pick : PySem.W.nsIn K mainGlobals "_law_pick" = some (some (.ref f_law_pick)))
    (l_law_pick : K.lookup f_law_pick = some ⟨oc_law_pick, od_law_pick, .func (PySem.W.fnOf "_law_pick" "_law_pick" (defArgs s_law_pick) (defBody s_law_pick) (defScope s_law_pick) .none kV_law_pick dc_law_pick pm_law_pick an_law_pick cd_law_pick ct_law_pick), sl_law_pick⟩)
    (c_law_pick : PySem.W.codeIn K cd_law_pick "_law_pick" = true)
    (k_law_pick : PySem.W.keepIn K (.ref f_law_pick) = true)
    (a_law_reserved : PySem.W.nsIn K mainGlobals "_law_reserved" = some (some (.ref f_law_reserved)))
    (l_law_reserved : K.lookup f_law_reserved = some ⟨oc_law_reserved, od_law_reserved, .func (PySem.W.fnOf "_law_reserved" "_law_reserved" (defArgs s_law_reserved) (defBody s_law_reserved) (defScope s_law_reserved) .none kV_law_reserved dc_law_reserved pm_law_reserved an_law_reserved cd_law_reserved ct_law_reserved), sl_law_reserved⟩)
    (c_law_reserved : PySem.W.codeIn K cd_law_reserved "_law_reserved" = true)
    (k_law_reserved : PySem.W.keepIn K (.ref f_law_reserved) = true)
    (a_law_any_word : PySem.W.nsIn K mainGlobals "_law_any_word" = some (some (.ref f_law_any_word)))
    (l_law_any_word : K.lookup f_law_any_word = some ⟨oc_law_any_word, od_law_any_word, .func (PySem.W.fnOf "_law_any_word" "_law_any_word" (defArgs s_law_any_word) (defBody s_law_any_word) (defScope s_law_any_word) .none kV_law_any_word dc_law_any_word pm_law_any_word an_law_any_word cd_law_any_word ct_law_any_word), sl_law_any_word⟩)
    (c_law_any_word : PySem.W.codeIn K cd_law_any_word "_law_any_word" = true)
    (k_law_any_word : PySem.W.keepIn K (.ref f_law_any_word) = true)
    (a_law_any_name : PySem.W.nsIn K mainGlobals "_law_any_name" = some (some (.ref f_law_any_name)))
    (l_law_any_name : K.lookup f_law_any_name = some ⟨oc_law_any_name, od_law_any_name, .func (PySem.W.fnOf "_law_any_name" "_law_any_name" (defArgs s_law_any_name) (defBody s_law_any_name) (defScope s_law_any_name) .none kV_law_any_name dc_law_any_name pm_law_any_name an_law_any_name cd_law_any_name ct_law_any_name), sl_law_any_name⟩)
    (c_law_any_name : PySem.W.codeIn K cd_law_any_name "_law_any_name" = true)
    (k_law_any_name : PySem.W.keepIn K (.ref f_law_any_name) = true)
    (a_law_names : PySem.W.nsIn K mainGlobals "_law_names" = some (some (.ref f_law_names)))
    (l_law_names : K.lookup f_law_names = some ⟨oc_law_names, od_law_names, .func (PySem.W.fnOf "_law_names" "_law_names" (defArgs s_law_names) (defBody s_law_names) (defScope s_law_names) .none kV_law_names dc_law_names pm_law_names an_law_names cd_law_names ct_law_names), sl_law_names⟩)
    (c_law_names : PySem.W.codeIn K cd_law_names "_law_names" = true)
    (k_law_names : PySem.W.keepIn K (.ref f_law_names) = true)
    (a_law_path : PySem.W.nsIn K mainGlobals "_law_path" = some (some (.ref f_law_path)))
    (l_law_path : K.lookup f_law_path = some ⟨oc_law_path, od_law_path, .func (PySem.W.fnOf "_law_path" "_law_path" (defArgs s_law_path) (defBody s_law_path) (defScope s_law_path) .none kV_law_path dc_law_path pm_law_path an_law_path cd_law_path ct_law_path), sl_law_path⟩)
    (c_law_path : PySem.W.codeIn K cd_law_path "_law_path" = true)
    (k_law_path : PySem.W.keepIn K (.ref f_law_path) = true)
    (a_law_set : PySem.W.nsIn K mainGlobals "_law_set" = some (some (.ref f_law_set)))
    (l_law_set : K.lookup f_law_set = some ⟨oc_law_set, od_law_set, .func (PySem.W.fnOf "_law_set" "_law_set" (defArgs s_law_set) (defBody s_law_set) (defScope s_law_set) .none kV_law_set dc_law_set pm_law_set an_law_set cd_law_set ct_law_set), sl_law_set⟩)
    (c_law_set : PySem.W.codeIn K cd_law_set "_law_set" = true)
    (k_law_set : PySem.W.keepIn K (.ref f_law_set) = true)
    (a_law_refused : PySem.W.nsIn K mainGlobals "_law_refused" = some (some (.ref f_law_refused)))
    (l_law_refused : K.lookup f_law_refused = some ⟨oc_law_refused, od_law_refused, .func (PySem.W.fnOf "_law_refused" "_law_refused" (defArgs s_law_refused) (defBody s_law_refused) (defScope s_law_refused) .none kV_law_refused dc_law_refused pm_law_refused an_law_refused cd_law_refused ct_law_refused), sl_law_refused⟩)
    (c_law_refused : PySem.W.codeIn K cd_law_refused "_law_refused" = true)
    (k_law_refused : PySem.W.keepIn K (.ref f_law_refused) = true)
    (a_law_right : PySem.W.nsIn K mainGlobals "_law_right" = some (some (.ref f_law_right)))
    (l_law_right : K.lookup f_law_right = some ⟨oc_law_right, od_law_right, .func (PySem.W.fnOf "_law_right" "_law_right" (defArgs s_law_right) (defBody s_law_right) (defScope s_law_right) .none kV_law_right dc_law_right pm_law_right an_law_right cd_law_right ct_law_right), sl_law_right⟩)
    (c_law_right : PySem.W.codeIn K cd_law_right "_law_right" = true)
    (k_law_right : PySem.W.keepIn K (.ref f_law_right) = true)
    (a_law : PySem.W.nsIn K mainGlobals "law" = some (some (.ref f_law)))
    (l_law : K.lookup f_law = some ⟨oc_law, od_law, .func (PySem.W.fnOf "law" "law" (defArgs s_law) (defBody s_law) (defScope s_law) .none kV_law dc_law pm_law an_law cd_law ct_law), sl_law⟩)
    (c_law : PySem.W.codeIn K cd_law "law" = true)
    (k_law : PySem.W.keepIn K (.ref f_law) = true)
    (n_LETTERS : PySem.W.nsIn K mainGlobals "LETTERS" = some (some (.str "abcdefghijklmnopqrstuvwxyz" t_LETTERS)))
    (n_SIGNS : PySem.W.nsIn K mainGlobals "SIGNS" = some (some (.str "abcdefghijklmnopqrstuvwxyz0123456789_" t_SIGNS)))
    (n_MOST_SIGNS : PySem.W.nsIn K mainGlobals "MOST_SIGNS" = some (some (.int 8 t_MOST_SIGNS)))
    (n_RESERVED : PySem.W.nsIn K mainGlobals "RESERVED" = some (some (.ref a_RESERVED)))
    (l_RESERVED : K.lookup a_RESERVED = some ⟨.type "tuple", od_RESERVED, .seq us_RESERVED.toArray nn_RESERVED, sl_RESERVED⟩)
    (s_RESERVED : us_RESERVED.length ≤ 1000)
    (v_RESERVED : Vals [V.str "as", V.str "ask", V.str "call", V.str "def", V.str "each", V.str "else", V.str "entry", V.str "except", V.str "fail", V.str "if", V.str "in", V.str "let", V.str "offer", V.str "return", V.str "set", V.str "table", V.str "there", V.str "try", V.str "use"] us_RESERVED)
    (z_super : PySem.W.nsIn K mainGlobals "super" = some none)
    (z_isinstance : PySem.W.nsIn K mainGlobals "isinstance" = some none)
    (z_str : PySem.W.nsIn K mainGlobals "str" = some none)
    (z_all : PySem.W.nsIn K mainGlobals "all" = some none)
    (z_len : PySem.W.nsIn K mainGlobals "len" = some none)
    (z_tuple : PySem.W.nsIn K mainGlobals "tuple" = some none)
    (z_enumerate : PySem.W.nsIn K mainGlobals "enumerate" = some none)
    (z_sorted : PySem.W.nsIn K mainGlobals "sorted" = some none)
    (z_list : PySem.W.nsIn K mainGlobals "list" = some none)
    (z_iter : PySem.W.nsIn K mainGlobals "iter" = some none)
    (z_NotImplemented : PySem.W.nsIn K mainGlobals "NotImplemented" = some none)
    (z_classmethod : PySem.W.nsIn K mainGlobals "classmethod" = some none)
    (z_int : PySem.W.nsIn K mainGlobals "int" = some none)
    (z_range : PySem.W.nsIn K mainGlobals "range" = some none)
    (z_repr : PySem.W.nsIn K mainGlobals "repr" = some none)
    (z_bool : PySem.W.nsIn K mainGlobals "bool" = some none)
    (z_min : PySem.W.nsIn K mainGlobals "min" = some none)
    (a_Names : PySem.W.nsIn K mainGlobals "Names" = some (some (.ref C_Names)))
    (pg_Names : PySem.W.plainGet K C_Names Str.empty = true)
    (hd_Names : PySem.W.hasDictIn K C_Names = true)
    (po_Names : PySem.W.plainOver K C_Names = true)
    (sa_Names : PySem.W.findIn K (.ref C_Names) "__setattr__" = some (some (.builtin "object.__setattr__")))
    (mk_Names : PySem.W.makesIn K C_Names = true)
    (kc_Names : PySem.W.keepIn K (.ref C_Names) = true)
    (sf_Names : PySem.W.selfFirst K C_Names = true)
    (ih_Names : PySem.W.findIn K (.ref C_Names) "__class__" = some (some (.builtin "object.__class__")))
    (im_Names : PySem.W.mroIn K C_Names (.type "object") = some true)
    (ne_Names : PySem.W.findIn K (.ref C_Names) "__ne__" = some (some (.builtin "object.__ne__")))
    (ty_Names : PySem.W.typeIn K (.ref C_Names) = some (.type "type"))
    (in_Names : PySem.W.specialIn K (.builtin "object.__class__") "__get__" = some (some (.builtin "getset_descriptor.__get__")))
    (it_Names : PySem.W.takesIn K (.builtin "object.__class__") = some true)
    (at_Names_paths : PySem.W.findIn K (.ref C_Names) "paths" = some none)
    (a_Names_init : PySem.W.findIn K (.ref C_Names) "__init__" = some (some (.ref f_Names_init)))
    (i_Names_init : PySem.W.isFn K (.ref f_Names_init) = true)
    (l_Names_init : K.lookup f_Names_init = some ⟨oc_Names_init, od_Names_init, .func (PySem.W.fnOf "__init__" "Names.__init__" (defArgs s_Names_init) (defBody s_Names_init) (defScope s_Names_init) .none kV_Names_init dc_Names_init pm_Names_init an_Names_init cd_Names_init ct_Names_init), sl_Names_init⟩)
    (c_Names_init : PySem.W.codeIn K cd_Names_init "Names.__init__" = true)
    (k_Names_init : PySem.W.keepIn K (.ref f_Names_init) = true)
    (a_Names_len : PySem.W.findIn K (.ref C_Names) "__len__" = some (some (.ref f_Names_len)))
    (i_Names_len : PySem.W.isFn K (.ref f_Names_len) = true)
    (l_Names_len : K.lookup f_Names_len = some ⟨oc_Names_len, od_Names_len, .func (PySem.W.fnOf "__len__" "Names.__len__" (defArgs s_Names_len) (defBody s_Names_len) (defScope s_Names_len) .none kV_Names_len dc_Names_len pm_Names_len an_Names_len cd_Names_len ct_Names_len), sl_Names_len⟩)
    (c_Names_len : PySem.W.codeIn K cd_Names_len "Names.__len__" = true)
    (k_Names_len : PySem.W.keepIn K (.ref f_Names_len) = true)
    (a_Names_bool : PySem.W.findIn K (.ref C_Names) "__bool__" = some (some (.ref f_Names_bool)))
    (i_Names_bool : PySem.W.isFn K (.ref f_Names_bool) = true)
    (l_Names_bool : K.lookup f_Names_bool = some ⟨oc_Names_bool, od_Names_bool, .func (PySem.W.fnOf "__bool__" "Names.__bool__" (defArgs s_Names_bool) (defBody s_Names_bool) (defScope s_Names_bool) .none kV_Names_bool dc_Names_bool pm_Names_bool an_Names_bool cd_Names_bool ct_Names_bool), sl_Names_bool⟩)
    (c_Names_bool : PySem.W.codeIn K cd_Names_bool "Names.__bool__" = true)
    (k_Names_bool : PySem.W.keepIn K (.ref f_Names_bool) = true)
    (a_Names_contains : PySem.W.findIn K (.ref C_Names) "__contains__" = some (some (.ref f_Names_contains)))
    (i_Names_contains : PySem.W.isFn K (.ref f_Names_contains) = true)
    (l_Names_contains : K.lookup f_Names_contains = some ⟨oc_Names_contains, od_Names_contains, .func (PySem.W.fnOf "__contains__" "Names.__contains__" (defArgs s_Names_contains) (defBody s_Names_contains) (defScope s_Names_contains) .none kV_Names_contains dc_Names_contains pm_Names_contains an_Names_contains cd_Names_contains ct_Names_contains), sl_Names_contains⟩)
    (c_Names_contains : PySem.W.codeIn K cd_Names_contains "Names.__contains__" = true)
    (k_Names_contains : PySem.W.keepIn K (.ref f_Names_contains) = true)
    (a_Names_eq : PySem.W.findIn K (.ref C_Names) "__eq__" = some (some (.ref f_Names_eq)))
    (i_Names_eq : PySem.W.isFn K (.ref f_Names_eq) = true)
    (l_Names_eq : K.lookup f_Names_eq = some ⟨oc_Names_eq, od_Names_eq, .func (PySem.W.fnOf "__eq__" "Names.__eq__" (defArgs s_Names_eq) (defBody s_Names_eq) (defScope s_Names_eq) .none kV_Names_eq dc_Names_eq pm_Names_eq an_Names_eq cd_Names_eq ct_Names_eq), sl_Names_eq⟩)
    (c_Names_eq : PySem.W.codeIn K cd_Names_eq "Names.__eq__" = true)
    (k_Names_eq : PySem.W.keepIn K (.ref f_Names_eq) = true)
    (a_SpareError : PySem.W.nsIn K mainGlobals "SpareError" = some (some (.ref C_SpareError)))
    (ga_SpareError : PySem.W.findIn K (.ref C_SpareError) "__getattribute__" = some (some (.builtin "BaseException.__getattribute__")))
    (gg_SpareError : PySem.W.findIn K (.ref C_SpareError) "__getattr__" = some none)
    (ex_SpareError : PySem.W.subIn K (.ref C_SpareError) (.type "BaseException") = some true)
    (hd_SpareError : PySem.W.hasDictIn K C_SpareError = true)
    (ih_SpareError : PySem.W.findIn K (.ref C_SpareError) "__class__" = some (some (.builtin "object.__class__")))
    (in_SpareError : PySem.W.specialIn K (.builtin "object.__class__") "__get__" = some (some (.builtin "getset_descriptor.__get__")))
    (it_SpareError : PySem.W.takesIn K (.builtin "object.__class__") = some true)
    (im_SpareError : PySem.W.mroIn K C_SpareError (.type "object") = some true)
    (ty_SpareError : PySem.W.typeIn K (.ref C_SpareError) = some (.type "type"))
    (kc_SpareError : PySem.W.keepIn K (.ref C_SpareError) = true)
    (sb_SpareError : PySem.W.subIn K (.ref C_SpareError) (.ref C_SpareError) = some true)
    (a_BadPath : PySem.W.nsIn K mainGlobals "BadPath" = some (some (.ref C_BadPath)))
    (ga_BadPath : PySem.W.findIn K (.ref C_BadPath) "__getattribute__" = some (some (.builtin "BaseException.__getattribute__")))
    (gg_BadPath : PySem.W.findIn K (.ref C_BadPath) "__getattr__" = some none)
    (ex_BadPath : PySem.W.subIn K (.ref C_BadPath) (.type "BaseException") = some true)
    (hd_BadPath : PySem.W.hasDictIn K C_BadPath = true)
    (ih_BadPath : PySem.W.findIn K (.ref C_BadPath) "__class__" = some (some (.builtin "object.__class__")))
    (in_BadPath : PySem.W.specialIn K (.builtin "object.__class__") "__get__" = some (some (.builtin "getset_descriptor.__get__")))
    (it_BadPath : PySem.W.takesIn K (.builtin "object.__class__") = some true)
    (im_BadPath : PySem.W.mroIn K C_BadPath (.type "object") = some true)
    (ty_BadPath : PySem.W.typeIn K (.ref C_BadPath) = some (.type "type"))
    (kc_BadPath : PySem.W.keepIn K (.ref C_BadPath) = true)
    (sb_BadPath : PySem.W.subIn K (.ref C_BadPath) (.ref C_SpareError) = some true)
    (xl_BadPath : K.lookup C_BadPath = some (excClassObj nm_BadPath q_BadPath C_BadPath N_BadPath bs_BadPath bm_BadPath true sn_BadPath sub_BadPath ab_BadPath col_BadPath dd_BadPath k0_BadPath k1_BadPath k2_BadPath k3_BadPath k5_BadPath "ValueError.__new__"))
    (rv_BadPath : PySem.HandSPX.refsVE bm_BadPath = true)
    (sa_BadPath : PySem.W.findIn K (.ref C_BadPath) "__setattr__" = some (some (.builtin "object.__setattr__")))
    (no_k_BadPath : PySem.W.findIn K (.ref C_BadPath) "k" = some none)
    (ai_BadPath : PySem.W.findIn K (.ref C_BadPath) "__init__" = some (some (.ref fI_BadPath)))
    (ti_BadPath : PySem.W.typeIn K (.ref fI_BadPath) = some (.type "function"))
    (li_BadPath : K.lookup fI_BadPath = some ⟨oc_BadPath, od_BadPath, .func (PySem.W.ksFn "__init__" "BadPath.__init__" (defArgs s_BadPath_init) (defBody s_BadPath_init) (defScope s_BadPath_init) .none kV_BadPath doc_BadPath pm_BadPath an_BadPath (.ref cda_BadPath) ct_BadPath cc_BadPath), osl_BadPath⟩)
    (ci_BadPath : PySem.W.codeIn K (.ref cda_BadPath) "BadPath.__init__" = true)
    (lc_BadPath : K.lookup cda_BadPath = some ⟨ccl_BadPath, cdd_BadPath, .fields vs_BadPath, ccs_BadPath⟩)
    (hv_BadPath : vs_BadPath[2]? = some (.str file_BadPath tf_BadPath))
    (hf_BadPath : (mainFile == file_BadPath) = true)
    (ce_BadPath : K.lookup cc_BadPath = some ⟨cl_BadPath, cld_BadPath, .cell (some (.ref C_BadPath)), csl_BadPath⟩)
    (su_BadPath : PySem.W.ks_superIn K C_BadPath C_BadPath "__init__" = some (some (.builtin "ValueError.__init__")))
    (se_BadPath : PySem.W.mroIn K C_BadPath (.ref C_BadPath) = some true)
    (op_BadPath : PySem.W.nsIn K cStatics "thirdparty.any" = some none)
    (ve_BadPath : PySem.W.subIn K (.ref C_BadPath) (.type "ValueError") = some true)
    (hP : PrOk l.prog) :
    ∃ fd : FuncData, (∀ (s : Shared) (v : Value), BindsTo s fd ⟨[v], []⟩ [("_law_script", v)]) ∧ ∀ base : Heap, K.In base → base.Ns mainGlobals mg → FnG l.prog w K mg base CX0 9 fa fd ["_law_script"] (spLaw K) := by
  have e3 : fa = f_law := by
    have z := hfa.symm.trans (PySem.W.mg_of X G a_law)
    injection z with z
    injection z
  have T : Nonempty { T : Txt K mg // T.f_law = f_law ∧ T.fd_law = PySem.W.fnOf "law" "law" (defArgs s_law) (defBody s_law) (defScope s_law) .none kV_law dc_law pm_law an_law cd_law ct_law } := ⟨⟨{
    f_wall := f_wall, fd_wall := _, F_wall := fun_mk (st := s_wall) l_wall c_wall k_wall, g_wall := PySem.W.mg_of X G a_wall,
    b_wall := (fun_mk (st := s_wall) l_wall c_wall k_wall).binds (ps := ["k"]) fun _ _ _ _ _ _ us hl => match us, hl with | [_], _ => rfl,
    f_is_word := f_is_word, fd_is_word := _, F_is_word := fun_mk (st := s_is_word) l_is_word c_is_word k_is_word, g_is_word := PySem.W.mg_of X G a_is_word,
    b_is_word := (fun_mk (st := s_is_word) l_is_word c_is_word k_is_word).binds (ps := ["value"]) fun _ _ _ _ _ _ us hl => match us, hl with | [_], _ => rfl,
    f_is_name := f_is_name, fd_is_name := _, F_is_name := fun_mk (st := s_is_name) l_is_name c_is_name k_is_name, g_is_name := PySem.W.mg_of X G a_is_name,
    b_is_name := (fun_mk (st := s_is_name) l_is_name c_is_name k_is_name).binds (ps := ["value"]) fun _ _ _ _ _ _ us hl => match us, hl with | [_], _ => rfl,
    f_is_path := f_is_path, fd_is_path := _, F_is_path := fun_mk (st := s_is_path) l_is_path c_is_path k_is_path, g_is_path := PySem.W.mg_of X G a_is_path,
    b_is_path := (fun_mk (st := s_is_path) l_is_path c_is_path k_is_path).binds (ps := ["value"]) fun _ _ _ _ _ _ us hl => match us, hl with | [_], _ => rfl,
    f_law_begun := f_law_begun, fd_law_begun := _, F_law_begun := fun_mk (st := s_law_begun) l_law_begun c_law_begun k_law_begun, g_law_begun := PySem.W.mg_of X G a_law_begun,
    b_law_begun := (fun_mk (st := s_law_begun) l_law_begun c_law_begun k_law_begun).binds (ps := ["_law_script"]) fun _ _ _ _ _ _ us hl => match us, hl with | [_], _ => rfl,
    f_law_mixed := f_law_mixed, fd_law_mixed := _, F_law_mixed := fun_mk (st := s_law_mixed) l_law_mixed c_law_mixed k_law_mixed, g_law_mixed := PySem.W.mg_of X G a_law_mixed,
    b_law_mixed := (fun_mk (st := s_law_mixed) l_law_mixed c_law_mixed k_law_mixed).binds (ps := ["_law_state"]) fun _ _ _ _ _ _ us hl => match us, hl with | [_], _ => rfl,
    f_law_take := f_law_take, fd_law_take := _, F_law_take := fun_mk (st := s_law_take) l_law_take c_law_take k_law_take, g_law_take := PySem.W.mg_of X G a_law_take,
    b_law_take := (fun_mk (st := s_law_take) l_law_take c_law_take k_law_take).binds (ps := ["_law_state", "_law_size"]) fun _ _ _ _ _ _ us hl => match us, hl with | [_, _], _ => rfl,
    f_law_pick := f_law_pick, fd_law_pick := _, F_law_pick := fun_mk (st := s_law_pick) l_law_pick c_law_pick k_law_pick, g_law_pick := PySem.W.mg_of X G a_law_pick,
    b_law_pick := (fun_mk (st := s_law_pick) l_law_pick c_law_pick k_law_pick).binds (ps := ["_law_state", "_law_some"]) fun _ _ _ _ _ _ us hl => match us, hl with | [_, _], _ => rfl,
    f_law_reserved := f_law_reserved, fd_law_reserved := _, F_law_reserved := fun_mk (st := s_law_reserved) l_law_reserved c_law_reserved k_law_reserved, g_law_reserved := PySem.W.mg_of X G a_law_reserved,
    b_law_reserved := (fun_mk (st := s_law_reserved) l_law_reserved c_law_reserved k_law_reserved).binds (ps := []) fun _ _ _ _ _ _ us hl => match us, hl with | [], _ => rfl,
    f_law_any_word := f_law_any_word, fd_law_any_word := _, F_law_any_word := fun_mk (st := s_law_any_word) l_law_any_word c_law_any_word k_law_any_word, g_law_any_word := PySem.W.mg_of X G a_law_any_word,
    b_law_any_word := (fun_mk (st := s_law_any_word) l_law_any_word c_law_any_word k_law_any_word).binds (ps := ["_law_state", "_law_least", "_law_most"]) fun _ _ _ _ _ _ us hl => match us, hl with | [_, _, _], _ => rfl,
    f_law_any_name := f_law_any_name, fd_law_any_name := _, F_law_any_name := fun_mk (st := s_law_any_name) l_law_any_name c_law_any_name k_law_any_name, g_law_any_name := PySem.W.mg_of X G a_law_any_name,
    b_law_any_name := (fun_mk (st := s_law_any_name) l_law_any_name c_law_any_name k_law_any_name).binds (ps := ["_law_state"]) fun _ _ _ _ _ _ us hl => match us, hl with | [_], _ => rfl,
    f_law_names := f_law_names, fd_law_names := _, F_law_names := fun_mk (st := s_law_names) l_law_names c_law_names k_law_names, g_law_names := PySem.W.mg_of X G a_law_names,
    b_law_names := (fun_mk (st := s_law_names) l_law_names c_law_names k_law_names).binds (ps := ["_law_state", "_law_many"]) fun _ _ _ _ _ _ us hl => match us, hl with | [_, _], _ => rfl,
    f_law_path := f_law_path, fd_law_path := _, F_law_path := fun_mk (st := s_law_path) l_law_path c_law_path k_law_path, g_law_path := PySem.W.mg_of X G a_law_path,
    b_law_path := (fun_mk (st := s_law_path) l_law_path c_law_path k_law_path).binds (ps := ["_law_state", "_law_names_here"]) fun _ _ _ _ _ _ us hl => match us, hl with | [_, _], _ => rfl,
    f_law_set := f_law_set, fd_law_set := _, F_law_set := fun_mk (st := s_law_set) l_law_set c_law_set k_law_set, g_law_set := PySem.W.mg_of X G a_law_set,
    b_law_set := (fun_mk (st := s_law_set) l_law_set c_law_set k_law_set).binds (ps := ["_law_some"]) fun _ _ _ _ _ _ us hl => match us, hl with | [_], _ => rfl,
    f_law_refused := f_law_refused, fd_law_refused := _, F_law_refused := fun_mk (st := s_law_refused) l_law_refused c_law_refused k_law_refused, g_law_refused := PySem.W.mg_of X G a_law_refused,
    b_law_refused := (fun_mk (st := s_law_refused) l_law_refused c_law_refused k_law_refused).binds (ps := ["_law_some"]) fun _ _ _ _ _ _ us hl => match us, hl with | [_], _ => rfl,
    f_law_right := f_law_right, fd_law_right := _, F_law_right := fun_mk (st := s_law_right) l_law_right c_law_right k_law_right, g_law_right := PySem.W.mg_of X G a_law_right,
    b_law_right := (fun_mk (st := s_law_right) l_law_right c_law_right k_law_right).binds (ps := ["_law_made", "_law_due", "_law_others"]) fun _ _ _ _ _ _ us hl => match us, hl with | [_, _, _], _ => rfl,
    f_law := f_law, fd_law := _, F_law := fun_mk (st := s_law) l_law c_law k_law, g_law := PySem.W.mg_of X G a_law,
    b_law := (fun_mk (st := s_law) l_law c_law k_law).binds (ps := ["_law_script"]) fun _ _ _ _ _ _ us hl => match us, hl with | [_], _ => rfl,
    c_LETTERS := ⟨_, PySem.W.mg_of X G n_LETTERS⟩,
    c_SIGNS := ⟨_, PySem.W.mg_of X G n_SIGNS⟩,
    c_MOST_SIGNS := ⟨_, PySem.W.mg_of X G n_MOST_SIGNS⟩,
    a_RESERVED := a_RESERVED, c_RESERVED := PySem.W.mg_of X G n_RESERVED, q_RESERVED := fun H => .inr ⟨_, us_RESERVED.toArray, _, l_RESERVED, rfl, rfl, Nat.le_of_lt (small1000 (by simpa using s_RESERVED)), by simpa using v_RESERVED⟩,
    z_super := PySem.W.mg_none_of X G z_super,
    z_isinstance := PySem.W.mg_none_of X G z_isinstance,
    z_str := PySem.W.mg_none_of X G z_str,
    z_all := PySem.W.mg_none_of X G z_all,
    z_len := PySem.W.mg_none_of X G z_len,
    z_tuple := PySem.W.mg_none_of X G z_tuple,
    z_enumerate := PySem.W.mg_none_of X G z_enumerate,
    z_sorted := PySem.W.mg_none_of X G z_sorted,
    z_list := PySem.W.mg_none_of X G z_list,
    z_iter := PySem.W.mg_none_of X G z_iter,
    z_NotImplemented := PySem.W.mg_none_of X G z_NotImplemented,
    z_classmethod := PySem.W.mg_none_of X G z_classmethod,
    z_int := PySem.W.mg_none_of X G z_int,
    z_range := PySem.W.mg_none_of X G z_range,
    z_repr := PySem.W.mg_none_of X G z_repr,
    z_bool := PySem.W.mg_none_of X G z_bool,
    z_min := PySem.W.mg_none_of X G z_min,
    C_Names := C_Names, gC_Names := PySem.W.mg_of X G a_Names, cl_Names := ⟨pg_Names, hd_Names, po_Names, sa_Names⟩, sf_Names := sf_Names, ih_Names := ih_Names, in_Names := in_Names, it_Names := it_Names, im_Names := im_Names, ne_Names := ne_Names, ty_Names := ty_Names,
    at_Names_paths := at_Names_paths,
    f_Names_init := f_Names_init, fd_Names_init := _, F_Names_init := fun_mk (st := s_Names_init) l_Names_init c_Names_init k_Names_init,
    m_Names_init := ⟨a_Names_init, i_Names_init, k_Names_init⟩,
    mk_Names := ⟨mk_Names, a_Names_init, i_Names_init, kc_Names⟩,
    f_Names_len := f_Names_len, fd_Names_len := _, F_Names_len := fun_mk (st := s_Names_len) l_Names_len c_Names_len k_Names_len,
    m_Names_len := ⟨a_Names_len, i_Names_len, k_Names_len⟩,
    b_Names_len := (fun_mk (st := s_Names_len) l_Names_len c_Names_len k_Names_len).binds (ps := ["self"]) fun _ _ _ _ _ _ us hl => match us, hl with | [_], _ => rfl,
    f_Names_bool := f_Names_bool, fd_Names_bool := _, F_Names_bool := fun_mk (st := s_Names_bool) l_Names_bool c_Names_bool k_Names_bool,
    m_Names_bool := ⟨a_Names_bool, i_Names_bool, k_Names_bool⟩,
    b_Names_bool := (fun_mk (st := s_Names_bool) l_Names_bool c_Names_bool k_Names_bool).binds (ps := ["self"]) fun _ _ _ _ _ _ us hl => match us, hl with | [_], _ => rfl,
    f_Names_contains := f_Names_contains, fd_Names_contains := _, F_Names_contains := fun_mk (st := s_Names_contains) l_Names_contains c_Names_contains k_Names_contains,
    m_Names_contains := ⟨a_Names_contains, i_Names_contains, k_Names_contains⟩,
    b_Names_contains := (fun_mk (st := s_Names_contains) l_Names_contains c_Names_contains k_Names_contains).binds (ps := ["self", "value"]) fun _ _ _ _ _ _ us hl => match us, hl with | [_, _], _ => rfl,
    f_Names_eq := f_Names_eq, fd_Names_eq := _, F_Names_eq := fun_mk (st := s_Names_eq) l_Names_eq c_Names_eq k_Names_eq,
    m_Names_eq := ⟨a_Names_eq, i_Names_eq, k_Names_eq⟩,
    b_Names_eq := (fun_mk (st := s_Names_eq) l_Names_eq c_Names_eq k_Names_eq).binds (ps := ["self", "other"]) fun _ _ _ _ _ _ us hl => match us, hl with | [_, _], _ => rfl,
    C_SpareError := C_SpareError, gC_SpareError := PySem.W.mg_of X G a_SpareError, x_SpareError := ⟨ga_SpareError, gg_SpareError, ex_SpareError, hd_SpareError, ih_SpareError, in_SpareError, it_SpareError, im_SpareError⟩, xf_SpareError := ⟨ga_SpareError, gg_SpareError, ex_SpareError, hd_SpareError⟩, kC_SpareError := kc_SpareError, ty_SpareError := ty_SpareError,
    m_SpareError := PySem.W.exm_ref ex_SpareError hd_SpareError ty_SpareError sb_SpareError,
    C_BadPath := C_BadPath, gC_BadPath := PySem.W.mg_of X G a_BadPath, x_BadPath := ⟨ga_BadPath, gg_BadPath, ex_BadPath, hd_BadPath, ih_BadPath, in_BadPath, it_BadPath, im_BadPath⟩, xf_BadPath := ⟨ga_BadPath, gg_BadPath, ex_BadPath, hd_BadPath⟩, kC_BadPath := kc_BadPath, ty_BadPath := ty_BadPath,
    m_BadPath := PySem.W.exm_ref ex_SpareError hd_SpareError ty_SpareError sb_BadPath,
    fI_BadPath := fI_BadPath,
    no_BadPath_k := no_k_BadPath,
    e_BadPath := fun P hP => { g := PySem.W.mg_of X G a_BadPath, O := ⟨⟨nm_BadPath, q_BadPath, N_BadPath, bs_BadPath, bm_BadPath, sn_BadPath, sub_BadPath, ab_BadPath, col_BadPath, dd_BadPath, k0_BadPath, k1_BadPath, k2_BadPath, k3_BadPath, k5_BadPath, xl_BadPath, rv_BadPath⟩, sa_BadPath, ex_BadPath, ty_BadPath, kc_BadPath⟩, S := ⟨⟨_, _, _, _, _, _, _, _, _, _, _, _, _, _, _, _, _, file_BadPath, _, li_BadPath, ci_BadPath, lc_BadPath, hv_BadPath, by rw [hP.1]; exact hf_BadPath, ce_BadPath⟩, hP.2, su_BadPath, se_BadPath, op_BadPath, ve_BadPath⟩, T := tx_BadPath, no := no_k_BadPath, iC := ai_BadPath, tI := ti_BadPath, b := fun _ _ _ _ _ _ _ _ _ _ => .of_eq rfl, su := PySem.W.mg_none_of X G z_super } }, rfl, rfl⟩⟩
  obtain ⟨T, e1, e2⟩ := T
  refine ⟨PySem.W.fnOf "law" "law" (defArgs s_law) (defBody s_law) (defScope s_law) .none kV_law dc_law pm_law an_law cd_law ct_law, fun s v => .of_eq rfl, fun base _ _ => ?_⟩
  rw [e3, ← e1, ← e2]
  exact ok_law T hP
theorem walk {l : PySem.W.OpenLaw} {q : Program} {loose : List Str} {XP : (Str → Option Value) → Heap → Prop} {YP : World → Heap → Prop} {d : DefRec} {K : Params → PySem.W.Frag} (hn : l.most = some 63) (hdf : d.params.defaults = [])
    (hY : ∀ (w : World) (h : Heap), YP w h → (K w.params).In h)
    (F : ∀ (w : World) (mg : Str → Option Value) (fa : Addr) (h : Heap), (K w.params).In h → h.Ns mainGlobals mg → mg d.name = some (.ref fa) →
      ∃ fd : FuncData, (∀ (s : Shared) (u : Value), BindsTo s fd ⟨[u], []⟩ [("_law_script", u)]) ∧ ∀ base : Heap, (K w.params).In base → base.Ns mainGlobals mg → FnG l.prog w (K w.params) mg base CX0 9 fa fd ["_law_script"] (spLaw (K w.params))) :
    PySem.W.WalkO q loose XP YP l.row.toRowW d [] (fun f vs => PySem.call f vs) :=
  walkG (n := 63) (k := 9) (x := "_law_script") (CX := fun _ => CX0) (sp := fun w => spLaw (K w.params)) hn (by decide) hdf ⟨rfl, by decide, by decide⟩ hY F
    (fun _ _ a ns hl _ hS => ⟨a, ns, rfl, hS, hl, fun _ => rfl⟩) fun _ _ _ _ _ z => z
end Sn
open PySem PySem.W PyProof.Rows
set_option maxRecDepth 100000 in
set_option maxHeartbeats 0 in
theorem PySem.Challenge.cw_sparenames_k03_sets_of_paths_holds : PySem.Challenge.rw_sparenames_k03_sets_of_paths.Holds := by
  w_on; o_law; k_head; (case hw => w_witness2)
  k_fill
  refine Sn.walk (l := PySem.Challenge.rw_sparenames_k03_sets_of_paths) rfl rfl (fun w h Y => PySem.W.kIn_of Y) ?F
  case F =>
    intro w mg fa h KX G hmg
    refine' Sn.all_mk KX G hmg ?a_wall ?l_wall ?c_wall ?k_wall ?a_is_word ?l_is_word ?c_is_word ?k_is_word ?a_is_name ?l_is_name ?c_is_name ?k_is_name ?a_is_path ?l_is_path ?c_is_path ?k_is_path ?a_law_begun ?l_law_begun ?c_law_begun ?k_law_begun ?a_law_mixed ?l_law_mixed ?c_law_mixed ?k_law_mixed ?a_law_take ?l_law_take ?c_law_take ?k_law_take ?a_law_pick ?l_law_pick ?c_law_pick ?k_law_pick ?a_law_reserved ?l_law_reserved ?c_law_reserved ?k_law_reserved ?a_law_any_word ?l_law_any_word ?c_law_any_word ?k_law_any_word ?a_law_any_name ?l_law_any_name ?c_law_any_name ?k_law_any_name ?a_law_names ?l_law_names ?c_law_names ?k_law_names ?a_law_path ?l_law_path ?c_law_path ?k_law_path ?a_law_set ?l_law_set ?c_law_set ?k_law_set ?a_law_refused ?l_law_refused ?c_law_refused ?k_law_refused ?a_law_right ?l_law_right ?c_law_right ?k_law_right ?a_law ?l_law ?c_law ?k_law ?n_LETTERS ?n_SIGNS ?n_MOST_SIGNS ?n_RESERVED ?l_RESERVED ?s_RESERVED ?v_RESERVED ?z_super ?z_isinstance ?z_str ?z_all ?z_len ?z_tuple ?z_enumerate ?z_sorted ?z_list ?z_iter ?z_NotImplemented ?z_classmethod ?z_int ?z_range ?z_repr ?z_bool ?z_min ?a_Names ?pg_Names ?hd_Names ?po_Names ?sa_Names ?mk_Names ?kc_Names ?sf_Names ?ih_Names ?im_Names ?ne_Names ?ty_Names ?in_Names ?it_Names ?at_Names_paths ?a_Names_init ?i_Names_init ?l_Names_init ?c_Names_init ?k_Names_init ?a_Names_len ?i_Names_len ?l_Names_len ?c_Names_len ?k_Names_len ?a_Names_bool ?i_Names_bool ?l_Names_bool ?c_Names_bool ?k_Names_bool ?a_Names_contains ?i_Names_contains ?l_Names_contains ?c_Names_contains ?k_Names_contains ?a_Names_eq ?i_Names_eq ?l_Names_eq ?c_Names_eq ?k_Names_eq ?a_SpareError ?ga_SpareError ?gg_SpareError ?ex_SpareError ?hd_SpareError ?ih_SpareError ?in_SpareError ?it_SpareError ?im_SpareError ?ty_SpareError ?kc_SpareError ?sb_SpareError ?a_BadPath ?ga_BadPath ?gg_BadPath ?ex_BadPath ?hd_BadPath ?ih_BadPath ?in_BadPath ?it_BadPath ?im_BadPath ?ty_BadPath ?kc_BadPath ?sb_BadPath ?xl_BadPath ?rv_BadPath ?sa_BadPath ?no_k_BadPath ?ai_BadPath ?ti_BadPath ?li_BadPath ?ci_BadPath ?lc_BadPath ?hv_BadPath ?hf_BadPath ?ce_BadPath ?su_BadPath ?se_BadPath ?op_BadPath ?ve_BadPath ?hP
    (case a_wall => k_is)
    (case l_wall => k_is)
    (case c_wall => k_is)
    (case k_wall => k_is)
    (case a_is_word => k_is)
    (case l_is_word => k_is)
    (case c_is_word => k_is)
    (case k_is_word => k_is)
    (case a_is_name => k_is)
    (case l_is_name => k_is)
    (case c_is_name => k_is)
    (case k_is_name => k_is)
    (case a_is_path => k_is)
    (case l_is_path => k_is)
    (case c_is_path => k_is)
    (case k_is_path => k_is)
    (case a_law_begun => k_is)
    (case l_law_begun => k_is)
    (case c_law_begun => k_is)
    (case k_law_begun => k_is)
    (case a_law_mixed => k_is)
    (case l_law_mixed => k_is)
    (case c_law_mixed => k_is)
    (case k_law_mixed => k_is)
    (case a_law_take => k_is)
    (case l_law_take => k_is)
    (case c_law_take => k_is)
    (case k_law_take => k_is)
    (case a_law_pick => k_is)
    (case l_law_pick => k_is)
    (case c_law_pick => k_is)
    (case k_law_pick => k_is)
    (case a_law_reserved => k_is)
    (case l_law_reserved => k_is)
    (case c_law_reserved => k_is)
    (case k_law_reserved => k_is)
    (case a_law_any_word => k_is)
    (case l_law_any_word => k_is)
    (case c_law_any_word => k_is)
    (case k_law_any_word => k_is)
    (case a_law_any_name => k_is)
    (case l_law_any_name => k_is)
    (case c_law_any_name => k_is)
    (case k_law_any_name => k_is)
    (case a_law_names => k_is)
    (case l_law_names => k_is)
    (case c_law_names => k_is)
    (case k_law_names => k_is)
    (case a_law_path => k_is)
    (case l_law_path => k_is)
    (case c_law_path => k_is)
    (case k_law_path => k_is)
    (case a_law_set => k_is)
    (case l_law_set => k_is)
    (case c_law_set => k_is)
    (case k_law_set => k_is)
    (case a_law_refused => k_is)
    (case l_law_refused => k_is)
    (case c_law_refused => k_is)
    (case k_law_refused => k_is)
    (case a_law_right => k_is)
    (case l_law_right => k_is)
    (case c_law_right => k_is)
    (case k_law_right => k_is)
    (case a_law => k_is)
    (case l_law => k_is)
    (case c_law => k_is)
    (case k_law => k_is)
    (case n_LETTERS => k_is)
    (case n_SIGNS => k_is)
    (case n_MOST_SIGNS => k_is)
    (case n_RESERVED => k_is)
    (case l_RESERVED => k_is)
    (case s_RESERVED => decide)
    (case v_RESERVED => exact (.cons ⟨_, rfl⟩ (.cons ⟨_, rfl⟩ (.cons ⟨_, rfl⟩ (.cons ⟨_, rfl⟩ (.cons ⟨_, rfl⟩ (.cons ⟨_, rfl⟩ (.cons ⟨_, rfl⟩ (.cons ⟨_, rfl⟩ (.cons ⟨_, rfl⟩ (.cons ⟨_, rfl⟩ (.cons ⟨_, rfl⟩ (.cons ⟨_, rfl⟩ (.cons ⟨_, rfl⟩ (.cons ⟨_, rfl⟩ (.cons ⟨_, rfl⟩ (.cons ⟨_, rfl⟩ (.cons ⟨_, rfl⟩ (.cons ⟨_, rfl⟩ (.cons ⟨_, rfl⟩ .nil))))))))))))))))))))
    (case z_super => k_is)
    (case z_isinstance => k_is)
    (case z_str => k_is)
    (case z_all => k_is)
    (case z_len => k_is)
    (case z_tuple => k_is)
    (case z_enumerate => k_is)
    (case z_sorted => k_is)
    (case z_list => k_is)
    (case z_iter => k_is)
    (case z_NotImplemented => k_is)
    (case z_classmethod => k_is)
    (case z_int => k_is)
    (case z_range => k_is)
    (case z_repr => k_is)
    (case z_bool => k_is)
    (case z_min => k_is)
    (case a_Names => k_is)
    (case pg_Names => k_is)
    (case hd_Names => k_is)
    (case po_Names => k_is)
    (case sa_Names => k_is)
    (case mk_Names => k_is)
    (case kc_Names => k_is)
    (case sf_Names => k_is)
    (case ih_Names => k_is)
    (case im_Names => k_is)
    (case ne_Names => k_is)
    (case ty_Names => k_is)
    (case in_Names => k_is)
    (case it_Names => k_is)
    (case at_Names_paths => k_is)
    (case a_Names_init => k_is)
    (case i_Names_init => k_is)
    (case l_Names_init => k_is)
    (case c_Names_init => k_is)
    (case k_Names_init => k_is)
    (case a_Names_len => k_is)
    (case i_Names_len => k_is)
    (case l_Names_len => k_is)
    (case c_Names_len => k_is)
    (case k_Names_len => k_is)
    (case a_Names_bool => k_is)
    (case i_Names_bool => k_is)
    (case l_Names_bool => k_is)
    (case c_Names_bool => k_is)
    (case k_Names_bool => k_is)
    (case a_Names_contains => k_is)
    (case i_Names_contains => k_is)
    (case l_Names_contains => k_is)
    (case c_Names_contains => k_is)
    (case k_Names_contains => k_is)
    (case a_Names_eq => k_is)
    (case i_Names_eq => k_is)
    (case l_Names_eq => k_is)
    (case c_Names_eq => k_is)
    (case k_Names_eq => k_is)
    (case a_SpareError => k_is)
    (case ga_SpareError => k_is)
    (case gg_SpareError => k_is)
    (case ex_SpareError => k_is)
    (case hd_SpareError => k_is)
    (case ih_SpareError => k_is)
    (case in_SpareError => k_is)
    (case it_SpareError => k_is)
    (case im_SpareError => k_is)
    (case ty_SpareError => k_is)
    (case kc_SpareError => k_is)
    (case sb_SpareError => first | rfl | k_is)
    (case a_BadPath => k_is)
    (case ga_BadPath => k_is)
    (case gg_BadPath => k_is)
    (case ex_BadPath => k_is)
    (case hd_BadPath => k_is)
    (case ih_BadPath => k_is)
    (case in_BadPath => k_is)
    (case it_BadPath => k_is)
    (case im_BadPath => k_is)
    (case ty_BadPath => k_is)
    (case kc_BadPath => k_is)
    (case sb_BadPath => first | rfl | k_is)
    (case xl_BadPath => k_is)
    (case rv_BadPath => first | rfl | decide +kernel)
    (case sa_BadPath => k_is)
    (case no_k_BadPath => k_is)
    (case ai_BadPath => k_is)
    (case ti_BadPath => k_is)
    (case li_BadPath => k_is)
    (case ci_BadPath => k_is)
    (case lc_BadPath => k_is)
    (case hv_BadPath => rfl)
    (case hf_BadPath => first | rfl | decide +kernel)
    (case ce_BadPath => k_is)
    (case su_BadPath => ks_is)
    (case se_BadPath => k_is)
    (case op_BadPath => k_is)
    (case ve_BadPath => k_is)
    (case hP => exact ⟨rfl, by decide +kernel⟩)
#print axioms PySem.Challenge.cw_sparenames_k03_sets_of_paths_holds

