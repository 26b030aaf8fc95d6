import PyProof.Rows.All
import Wide.All
import OpenK.AllK
import Wide.FinOn
import HandS.ForMost
import HandS.IsInst
import HandS.Flow
import HandS.Walk
import HandS.Codes
import PyProof.TupleOfStr
import PyProof.ReprRoads
import HandS.OwnEq
import HandS.DictComp
import HandS.Star
import HandS.Conv
import HandS.ClsMeth
import KE.GoesMore
import KE.KSuperObj
import HandS.Deep
import HandS.ExcInit
import HandS.ExcValue
import HandS.ExcField
import HandS.ExcOwn
import HandS.WordsExc
import KE.KExcSuper
import KE.KExcIs
import HandS.ExcIs
import HandS.TupAny
import PyProof.NeKinds
import PyProof.StrOps2
import PySem.Challenge.RW_sparenames_k42_routes_refused
set_option Elab.async false
set_option linter.all false
set_option maxRecDepth 100000
set_option maxHeartbeats 4000000
/-! ## A small layer of our own over HandS: defs whose callers have no repr under way (guards), repr of data, tuple(text) -/
namespace Sn
open PySem PySem.Spec PyProof.Rows L2

/-! ### a def's promise where no repr is under way -/
section
variable {P : Program} {w : World} {K : PySem.W.Frag} {mg : Str → Option Value} {base : Heap} {CX : CXT}
structure FnG (P : Program) (w : World) (K : PySem.W.Frag) (mg : Str → Option Value)
    (base : Heap) (CX : CXT) (k : Nat) (f : Addr) (fd : FuncData) (ps : List Str) (sp : Sp) : Prop where
  leng : ∀ xs H Q E, sp xs H Q E → xs.length = ps.length
  runs : ∀ (A : Around) (fr : List Env) (s : Shared) (H : Hp) (ar : Args) (us : List Value) (xs : List V) (Q : VK) (E : XK),
    A.guards = some [] → Room k A → Env0 P w K mg base A fr s H → BindsTo s fd ar (ps.zip us) → Vals xs us → sp xs H Q E →
    codeAny (model P w) A (.call (.ref f) ar) (CR CX fr P w H s Q E) s
theorem FnG.of {k : Nat} {f : Addr} {fd : FuncData} {ps : List Str} {sp : Sp}
    (F : FnOk P w K mg base CX k f fd ps sp) : FnG P w K mg base CX k f fd ps sp :=
  ⟨F.len, fun A fr s H ar us xs Q E _ a b c d e => F.run A fr s H ar us xs Q E a b c d e⟩
theorem fnG_of {k : Nat} {f : Addr} {nm ql : Str} {pa : Arguments} {bd : List Stmt} {sc : Scope}
    {dV kV dc pm cd ct oc : Value} {an od : Option Addr} {sl : Array (Option Value)} {N ps : List Str} {sp : Sp}
    (lk : K.lookup f = some ⟨oc, od, .func (PySem.W.fnOf nm ql pa bd sc dV kV dc pm an cd ct), sl⟩)
    (hc : PySem.W.codeIn K cd ql = true) (S : FnScope N ps sc) (leng : ∀ xs H Q E, sp xs H Q E → xs.length = ps.length)
    (hb : ∀ (A : Around) (fr : List Env) (s : Shared) (H : Hp) (xs : List V) (Q : VK) (E : XK),
      (A.deeper (envOfC ql sc s.heap.objs.size f cd)).guards = some [] → Room k (A.deeper (envOfC ql sc s.heap.objs.size f cd)) →
      sp xs H Q E → ∃ t, PSs (cxOf CX P w K mg base N ql sc f cd A fr s H E) bd t ∧
        t { nx := fun _ H' => Q .non H', rt := Q } (start N xs) H) :
    FnG P w K mg base CX (k + 1) f (PySem.W.fnOf nm ql pa bd sc dV kV dc pm an cd ct) ps sp := by
  refine ⟨leng, ?_⟩
  intro A fr s H ar us xs Q E hg hr e0 hbi rv hsp
  have hlen := leng _ _ _ _ hsp
  have kin : K.In s.heap := e0.mod.kin.keeps fun b o q => (e0.bs b o q).1
  have nol : s.heap.NoLimit := e0.mod.nolimit.keeps fun b o q => (e0.bs b o q).1
  have knd : ∀ y ∈ ps.zip us, sc.names.lookup y.1 = some .local ∨ (sc.names.lookup y.1 = some .cell ∧
      ((cellsFrom (s.heap.objs.size + 1) sc.names []).lookup y.1).isSome = true) := by
    rintro ⟨n, v⟩ hy
    exact (S.par n (List.of_mem_zip hy).1).elim .inl fun q => .inr ⟨q, PySem.W.cellsFrom_some _ _ _ (.inl q)⟩
  refine codeAny_call_function hr.depth (kin _ _ lk) rfl S.co S.gen rfl (PySem.W.codeRec_of kin hc) ?_
  refine hbi _ _ _ _ ?_
  refine wpAny_newFunctionEnv_cells S.kind knd ?_
  rintro env rfl s1 x
  refine ⟨nol.keeps x.toInCall.keep, codeAny_func ?_⟩
  obtain ⟨t, ht, hq⟩ := hb A fr s H xs Q E hg (hr.deeper _) hsp
  have J : Inv (cxOf CX P w K mg base N ql sc f cd A fr s H E) [] (start N xs) H s1 :=
    inv_start S hr.hd e0 hlen rv x
  refine wpAny_mono (ht.run [] s1 (start N xs) H _ J hq) ?_ fun e s' z => z
  intro fl s' hs
  match fl, hs with
  | .ret u, ⟨v, σ', H', J', rr, qq⟩ => exact ⟨v, H', J'.os, J'.bare, J'.base, J'.hok, rr, qq⟩
  | .next, ⟨σ', H', J', qq⟩ => exact ⟨V.non, H', J'.os, J'.bare, J'.base, J'.hok, rfl, qq⟩
  | .brk, ⟨_, _, _, qq⟩ => exact False.elim qq
  | .cont, ⟨_, _, _, qq⟩ => exact False.elim qq
theorem okG {x ql : Str} {st : Stmt} {f : Addr} {fd : FuncData} {N ps : List Str} {k : Nat} {sp : Sp}
    (F : Fun K x ql st f fd) (S : FnScope N ps (defScope st)) (leng : ∀ xs H Q E, sp xs H Q E → xs.length = ps.length)
    (hb : ∀ (cd : Value) (A : Around) (fr : List Env) (s : Shared) (H : Hp) (xs : List V) (Q : VK) (E : XK),
      (A.deeper (envOfC ql (defScope st) s.heap.objs.size f cd)).guards = some [] →
      Room k (A.deeper (envOfC ql (defScope st) s.heap.objs.size f cd)) → sp xs H Q E →
      ∃ t, PSs (cxOf CX0 P w K mg base N ql (defScope st) f cd A fr s H E).nox (defBody st) t ∧
        t { nx := fun _ H' => Q .non H', rt := Q } (start N xs) H) :
    FnG P w K mg base CX0 (k + 1) f fd ps sp := by
  obtain ⟨oc, od, kV, dc, pm, an, cd, ct, sl, rfl, lk, hcd⟩ := F.ex
  refine fnG_of lk hcd S leng fun A fr s H xs Q E hg hr h => ?_
  obtain ⟨t, a, b⟩ := hb cd A fr s H xs Q E hg hr h
  exact ⟨t, a.nox, b⟩
end

section
variable {X : Cx} {CX : CXT} {k : Nat} {f : Addr} {fd : FuncData} {ps : List Str} {sp : Sp} {dvs : List V} {ds : List Value}
  {E : XK} {x : Str} {p pos : Pos} {e : Expr} {es : List Expr} {t : TA}
theorem runG {pins : List (Addr × Obj)} {σ : L2.St} {H : Hp} {s : Shared} {Q : VK} {us : List Value} {xs : List V}
    (F : FnG X.prog X.w X.K X.mg X.base CX k f fd ps sp) (hgu : X.A.guards = some []) (hr : Room k X.A)
    (hb : Binds X.K fd ps ds) (hd : Vals dvs ds) (hx : Passes CX X E) (I : Inv X pins σ H s) (r : Vals xs us)
    (h : sp (xs ++ dvs) H Q E) : wpAny (model X.prog X.w) X.A (call (.ref f) us) (EP X pins σ Q) X.xe s := by
  have r2 : Vals (xs ++ dvs) (us ++ ds) := r.append hd
  have hl : (us ++ ds).length = ps.length := r2.length.symm.trans (F.leng _ _ _ _ h)
  refine wpAny_call (codeAny_mono (F.runs X.A X.stack s H ⟨us, []⟩ _ _ Q E hgu hr I.env0 (hb s us I.kIn hl) r2 h) ?_)
  intro r s' hq
  match r, hq with
  | .error e, hq => exact hx pins σ H s e s' I hq
  | .ok (.ret u), hq => exact I.after hq
  | .ok .next, hq => exact False.elim hq
  | .ok .brk, hq => exact False.elim hq
  | .ok .cont, hq => exact False.elim hq
/-- f(e, ..) where no repr is under way -/
theorem pe_callG (F : FnG X.prog X.w X.K X.mg X.base CX k f fd ps sp) (hgu : X.A.guards = some []) (hr : Room k X.A) (hg : Gl X x)
    (hm : X.mg x = some (.ref f)) (hk : PySem.W.keepIn X.K (.ref f) = true) (hb : Binds X.K fd ps ds) (hd : Vals dvs ds)
    (hx : Passes CX X E) (ha : PA X (e :: es) t) (hdb : (x == ("__debug__" : Str)) = false := by decide)
    (he : starEach (e :: es) X.env = (false, eval e X.env) :: starEach es X.env := by rfl)
    (hpl : (backTo pos (starEach es X.env)).any (·.1) = false := by rfl) :
    PE X (.Call (.Name x p) (e :: es) [] pos) (tCall sp dvs E t) := by
  refine ⟨fun pins s σ H Q I h => wpAny_Call_Name_kw (ld_glob I hg hm ?_ hdb)⟩
  refine PySem.W.callWith_K (h₀ := X.base) I.ok.mod.kin hk ?_ he hpl
  refine thn (ha.run pos pins s σ H _ I h) ?_
  rintro us s1 ⟨xs, H1, I1, r, q⟩
  exact ⟨I1.kIn, runG F hgu hr hb hd hx I1 r q⟩

/-- f(k = v, ..), keywords alone -/
theorem pe_callK0 {kws : List Keyword} {tk : TA} {ks : List Str} {g : List Value → List Value → List Value} {gV : List V → List V → List V}
    (F : FnOk X.prog X.w X.K X.mg X.base CX k f fd ps sp) (hr : Room k X.A) (hg : Gl X x) (hm : X.mg x = some (.ref f))
    (hk : PySem.W.keepIn X.K (.ref f) = true) (hb : KBinds X.K fd ps ks g gV) (hx : Passes CX X E) (hkw : PK X kws tk)
    (hall : (backToKw pos (keywordEach kws X.env)).all (·.1.isSome) = true := by rfl)
    (hks : (backToKw pos (keywordEach kws X.env)).filterMap (·.1) = ks := by rfl) (hdb : (x == ("__debug__" : Str)) = false := by decide)
    (hpl : (backToKw pos (keywordEach kws X.env)).any (·.1.isNone) = false := by rfl) :
    PE X (.Call (.Name x p) [] kws pos) (tCallK sp gV E tNil tk) := by
  refine ⟨fun pins s σ H Q I h => wpAny_Call_Name_kw (ld_glob I hg hm ?_ hdb)⟩
  refine PySem.W.callWith_KW0 (h₀ := X.base) I.ok.mod.kin hk hall ?_ hpl
  refine thn (hkw.run pos pins s σ H _ I h) ?_
  rintro ws s2 ⟨zs, H2, I2, rz, q2⟩
  refine ⟨I2.kIn, ?_⟩
  rw [hks]
  exact run_fnk F hr hb hx I2 .nil rz q2
/-- repr of data that stands at an address -/
theorem call_repr (hgu : X.A.guards = some []) (hu : X.A.units + 70 < cLine) : CallR X (.builtin "repr")
    (fun xs H Q => ∃ (a : Addr) (d : PyData), xs = [.ref a] ∧ Dp X.K H (.ref a) d ∧ d.showable = true ∧ d.hasDict = false ∧
      d.depth ≤ 64 ∧ d.shown.length ≤ sizeLine ∧ Q (.str d.shown) H) := by
  intro pins s σ H xs us Q I r h
  obtain ⟨a, d, rfl, hD, hs, hn, hd, hz, q⟩ := h
  obtain ⟨u, rfl, rx⟩ := vals1 r
  obtain ⟨as, rr⟩ := Dp.reads I d _ u hD rx
  cases rx
  refine repr_of_reads' rr hs (fun z => by rw [hn] at z; cases z) hgu (by omega) (fun _ _ z => z) ?_ hz
  intro h' u tk kp
  exact ⟨.str _, H, I.kept kp, ⟨_, rfl⟩, q⟩
/-- tuple(text) -/
theorem call_tupS : CallR X (.type "tuple") (fun xs H Q => ∃ z : Str, xs = [.str z] ∧ X.A.handled = none ∧ z.cps.size ≤ sizeLine ∧
      ∀ l, H l = none → Q (.ref l) (upd H l (.tup (z.cps.toList.map fun c => V.str ⟨#[c]⟩)))) := by
  intro pins s σ H xs us Q I r h
  obtain ⟨z, rfl, hh, hz, q⟩ := h
  obtain ⟨u, rfl, t, rfl⟩ := vals1 r
  refine call_tuple_str hh z t ?_ hz
  intro h' tk acc kp hacc
  have I1 : Inv X pins σ H { s with heap := h', toks := tk } := I.kept kp
  have rv : Vals (z.cps.toList.map fun c => V.str ⟨#[c]⟩) acc.toList := by
    have key : ∀ (cs : List Nat) (us : List Value), us.length = cs.length →
        (∀ (j : Nat) (v : Value), us[j]? = some v → ∃ c u, cs[j]? = some c ∧ v = Value.str ⟨#[c]⟩ u) → Vals (cs.map fun c => V.str ⟨#[c]⟩) us := by
      intro cs
      induction cs with
      | nil =>
        intro us hl _
        match us, hl with
        | [], _ => exact .nil
      | cons c cs ih =>
        intro us hl hv
        match us, hl with
        | u :: us, hl =>
          obtain ⟨c', w', e1, e2⟩ := hv 0 u rfl
          cases e1
          exact .cons ⟨w', e2⟩ (ih us (by simpa using hl) fun j v hj => hv (j + 1) v hj)
    refine key _ _ (by simpa using hacc.1) fun j v hj => ?_
    obtain ⟨c, u, e1, e2⟩ := hacc.2 j v (by simpa using hj)
    exact ⟨c, u, by simpa using e1, e2⟩
  refine ⟨.ref h'.objs.size, _, I1.laid (t' := tk) (fun b o e => Heap.get?_push_of_some _ e) (Nat.le_refl _) ?_, rfl, q _ (I1.hok.fresh (Nat.le_refl _))⟩
  refine (show ObjOk X.prog X.w _ _ _ (.tup _) from ⟨by simpa using hz, acc.toList, rv, ?_⟩)
  rw [show acc.toList.toArray = acc from by simp]
  exact ⟨_, Heap.get?_push_size _ rfl, rfl, _, rfl⟩
end

theorem hu70 {A : Around} {k : Nat} (hr : Room k A) : A.units + 70 < cLine := by have := hr.un; omega
/-! ### the law's end: the caller has no repr under way -/
theorem law_callG {P : Program} {w : World} {K : PySem.W.Frag} {mg mb : Str → Option Value} {CX : CXT} {k : Nat}
    {fa a : Addr} {fd : FuncData} {x : Str} {sp : Sp} {s₁ : Shared} {us : List Value} {ns : List Int}
    (kin : K.In s₁.heap) (hns : s₁.heap.Ns mainGlobals mg) (hbn : s₁.heap.Ns builtinsNs mb)
    (hbb : ∀ x : Str, x ≠ "__name__" → mb x = bootBuiltins x) (nol : s₁.heap.NoLimit) (hge : s₁.gens = #[])
    (ha : s₁.heap.get? a = some { cls := .type "list", data := .seq us.toArray }) (hi : IntsAre us ns)
    (hl : ns.length ≤ sizeLine) (hr : Room k callerA)
    (F : ∀ base : Heap, K.In base → base.Ns mainGlobals mg → FnG P w K mg base CX k fa fd [x] sp)
    (hbi : ∀ (s : Shared) (u : Value), BindsTo s fd ⟨[u], []⟩ [(x, u)])
    (hsp : ∀ H : Hp, Only H → SqL K H a (ns.map V.int) → sp [.ref a] H (fun v _ => v = .bl true) fun _ _ _ => False)
    (hCX : ∀ H e s', CX [] H s₁ (fun _ _ _ => False) e s' → False) :
    codeAny (model P w) callerA (.call (.ref fa) ⟨[.ref a], []⟩)
      (fun r s' => r = .ok (.ret (.bool true)) ∧ OldK s₁.heap s'.heap ∧ s'.os = s₁.os ∧ AllBare s'.gens) s₁ := by
  have rv := vals_ints hi
  have main : ∀ H : Hp, Only H → SqL K H a (ns.map V.int) → HOk P w H s₁.heap → (∀ b, H b ≠ none → b = a) →
      (H a ≠ none → K.lookup a = none) → codeAny (model P w) callerA (.call (.ref fa) ⟨[.ref a], []⟩)
      (fun r s' => r = .ok (.ret (.bool true)) ∧ OldK s₁.heap s'.heap ∧ s'.os = s₁.os ∧ AllBare s'.gens) s₁ := by
    intro H hO hS hok hA hK
    have only : ∀ {b : Addr} {u : HO}, H b = some u → b = a := fun {b u} q => hA b (by rw [q]; simp)
    have nodict : ∀ {b : Addr} {o : Obj} {es : Array DictEntry} {ep : Nat}, s₁.heap.get? b = some o → o.data = .dict es ep → H b = none := by
      intro b o es ep q d
      cases hq : H b with
      | none => rfl
      | some u =>
        cases only hq
        rw [ha] at q; cases q; cases d
    have ns2 : ∀ {b : Addr} {m : Str → Option Value}, s₁.heap.Ns b m → (hidT s₁.heap H).Ns b m := by
      rintro b m ⟨o, es, ep, q, d, r⟩
      exact ⟨o, es, ep, hidT_get q (nodict q d), d, r⟩
    have kb : K.In (hidT s₁.heap H) := by
      intro b o q
      refine hidT_get (kin b o q) ?_
      cases hq : H b with
      | none => rfl
      | some u =>
        cases only hq
        rw [hK (by rw [hq]; simp)] at q; cases q
    obtain ⟨mc, h1, h2⟩ := nol
    have e0 : Env0 P w K mg (hidT s₁.heap H) callerA [] s₁ H :=
      { frames := rfl, mod := ⟨kb, ns2 hns, ⟨mb, ns2 hbn, hbb⟩, ⟨mc, ns2 h1, h2⟩⟩, bs := fun b o q => of_hidT q
        bsz := Nat.le_of_eq (hidT_size _ _), funs := trivial, frf := (fun b z => nomatch z), hok := hok, bare := .of_eq hge }
    refine codeAny_mono ((F _ kb (ns2 hns)).runs callerA [] s₁ H ⟨[.ref a], []⟩ [.ref a] [.ref a] _ _ rfl hr e0 (hbi s₁ (.ref a)) (.cons rfl .nil) (hsp H hO hS)) ?_
    intro r s' h
    match r, h with
    | .error e, h => exact (hCX H e s' h).elim
    | .ok .next, h => exact False.elim h
    | .ok .brk, h => exact False.elim h
    | .ok .cont, h => exact False.elim h
    | .ok (.ret u), ⟨v, H', os, bare, un, hok', rr, q⟩ =>
      have q1 : v = .bl true := q
      subst q1
      have q2 : u = Value.bool true := rr
      subst q2
      refine ⟨rfl, OldK.of_keep ?_, os, bare⟩
      intro b o e
      cases hq : H b with
      | none => exact un.keep b o e hq (fun z => nomatch z) (fun z => nomatch z)
      | some u =>
        rcases hO b with z | ⟨ob, xs, z⟩
        · rw [hq] at z; cases z
        · have e1 := (hok b _ z).1
          have e2 := (hok' b _ (un.frzs b ob _ z)).1
          rw [e] at e1; cases e1
          exact e2
  have lenV := hi.length
  cases hk : K.lookup a with
  | some o =>
    have e := kin a o hk
    rw [ha] at e
    cases e
    refine main (fun _ => none) (fun _ => .inl rfl) (.inr ⟨_, us.toArray, _, hk, rfl, rfl, rfl, ?_, by simpa using rv⟩) (fun b u z => nomatch z) (fun b z => absurd rfl z) fun z => absurd rfl z
    rw [List.size_toArray, lenV]; exact hl
  | none =>
    have only1 : ∀ b, ¬ b = a → (if b = a then some (HO.frz { cls := .type "list", data := .seq us.toArray } (.lst (ns.map V.int))) else none) = none := fun b h => if_neg h
    refine main (fun b => if b = a then some (.frz { cls := .type "list", data := .seq us.toArray } (.lst (ns.map V.int))) else none) ?_ (.inl (.inr ⟨_, if_pos rfl⟩)) ?_ ?_ fun _ => hk
    · intro b
      by_cases hb : b = a
      · exact .inr ⟨_, _, if_pos hb⟩
      · exact .inl (if_neg hb)
    · intro b u z
      by_cases hb : b = a
      · have z2 := (if_pos hb).symm.trans z
        cases z2
        subst hb
        exact ⟨ha, by rw [List.length_map]; exact hl, us, _, rv, ha⟩
      · have z2 := (if_neg hb).symm.trans z
        cases z2
    · intro b z
      exact Decidable.byContradiction fun hb => z (if_neg hb)
theorem walkG {l : PySem.W.OpenLaw} {n k : Nat} {q : Program} {loose : List Str} {XP : (Str → Option Value) → Heap → Prop}
    {YP : World → Heap → Prop} {d : DefRec} {K : Params → PySem.W.Frag} {CX : World → CXT} {sp : World → Sp} {x : Str}
    (hn : l.most = some n) (hn2 : n ≤ sizeLine) (hdf : d.params.defaults = []) (hr : Room k callerA)
    (hY : ∀ (w : World) (h : Heap), YP w h → (K w.params).In h)
    (F : ∀ (w : World) (mg : Str → Option Value) (fa : Addr) (h : Heap), (K w.params).In h → h.Ns mainGlobals mg →
      mg d.name = some (.ref fa) → ∃ fd : FuncData, (∀ (s : Shared) (u : Value), BindsTo s fd ⟨[u], []⟩ [(x, u)]) ∧
        ∀ base : Heap, (K w.params).In base → base.Ns mainGlobals mg → FnG l.prog w (K w.params) mg base (CX w) k fa fd [x] (sp w))
    (hsp : ∀ (w : World) (H : Hp) (a : Addr) (ns : List Int), ns.length ≤ n → Only H → SqL (K w.params) H a (ns.map V.int) →
      sp w [.ref a] H (fun v _ => v = .bl true) fun _ _ _ => False)
    (hCX : ∀ (w : World) (H : Hp) (s : Shared) (e : Value) (s' : Shared), CX w [] H s (fun _ _ _ => False) e s' → False) :
    PySem.W.WalkO q loose XP YP l.row.toRowW d [] (fun f vs => PySem.call f vs) := by
  refine Att.attach_call hn hdf ?_
  intro w s₀ s₁ mg mb fa o pm cd doc a us ns G Y ho hd hcd hmg hobj hints hlen hg
  have kin := hY w _ Y
  obtain ⟨fd, hb, hF⟩ := F w mg fa _ kin G.T.g hmg
  exact law_callG kin G.T.g G.T.b G.T.builtins G.T.nolimit hg hobj hints (Nat.le_trans hlen hn2) hr hF hb
    (fun H hO hS => hsp w H a ns hlen hO hS) fun H e s' => hCX w H s₁ e s'
end Sn

/-! ## Rules of our own: enumerate(tuple), own __len__, __contains__, operators, != -/
namespace Sn
open PySem PySem.Spec PyProof.Rows L2

/-! ### enumerate of a tuple -/
theorem enum_newT (l : Addr) (items : Array Value) (n : Nat) (dct : Option Addr) (sl : Array (Option Value)) :
    Meets (Builtin.«enumerate.__new__» ⟨[.type "enumerate", .ref l], []⟩) (fun _ R s =>
      s.heap.get? l = some { cls := .type "tuple", dict := dct, data := .seq items n, slots := sl } ∧
      R (.ok (.ret (.ref (s.heap.push { cls := .type "tuple_iterator", data := .fields #[.ref l, .int 0 0] }).objs.size)))
        { s with heap := (s.heap.push { cls := .type "tuple_iterator", data := .fields #[.ref l, .int 0 0] }).push { cls := .type "enumerate", data := .fields #[.none, .bool false, .ref s.heap.objs.size, rawInt 0, .none, .none] } }) :=
  .of_wp fun prog w A R s h => by
    obtain ⟨hp, g, d, tk, os⟩ := s
    obtain ⟨hl, h⟩ := h
    have hsub := sub_enumerate
    have hT : Heap.IsTuple (Shared.heap ⟨hp, g, d, tk, os⟩) l items := ⟨_, hl, rfl, n, rfl⟩
    wp_walk using AutoSeq1.wpAny_loadPart' hl
    refine wpAny_stack_any fun st => wpAny_pure ?_
    split
    · rename_i c _ _ _ _ _
      cases (c == Value.type "enumerate") <;> (wp_walk using AutoSeq1.wpAny_loadPart' hl, wpAny_pyIter_tuple hT; exact ⟨_, rfl, h⟩)
    · wp_walk using AutoSeq1.wpAny_loadPart' hl, wpAny_pyIter_tuple hT
      exact ⟨_, rfl, h⟩
section
variable {prog : Program} {w : World} {A : Around} {E : Value → Shared → Prop} {s : Shared}
theorem call_enumT {l : Addr} {items : Array Value} {Q : Value → Shared → Prop} (hL : s.heap.IsTuple l items)
    (h : ∀ h', IsEnum h' (s.heap.objs.size + 1) s.heap.objs.size 0 .none → h'.IsTupleIter s.heap.objs.size l 0 →
      h'.objs.size = s.heap.objs.size + 2 → (∀ b o, s.heap.get? b = some o → h'.get? b = some o) →
      Q (.ref (s.heap.objs.size + 1)) { s with heap := h' }) :
    wpAny (model prog w) A (call (.type "enumerate") [.ref l]) Q E s := by
  obtain ⟨⟨c, dct, dt, sl⟩, hl, hc, n, hd⟩ := hL
  have hc2 : c = .type "tuple" := hc
  have hd2 : dt = .seq items n := hd
  subst hc2 hd2
  refine callType_new F.called_enumerate (by decide) (F.typeCall_enumerate_1 _) (F.newCall_enumerate_1 _)
    (fun obj => F.args_object_init_2 obj _) F.entry_enumerate_new (enum_newT l items n dct sl) ⟨hl, ?_⟩
  generalize eo : ({ cls := .type "tuple_iterator", data := .fields #[.ref l, .int 0 0] } : Obj) = o1
  generalize ee : ({ cls := .type "enumerate", data := .fields #[.none, .bool false, .ref s.heap.objs.size, rawInt 0, .none, .none] } : Obj) = o2
  have hz : (s.heap.push o1).objs.size = s.heap.objs.size + 1 := Heap.size_push ..
  have g2 : ((s.heap.push o1).push o2).get? (s.heap.objs.size + 1) = some o2 := by
    have q := Heap.get?_push_size (s.heap.push o1) (o := o2) (by rw [← ee]; rfl)
    rw [hz] at q
    exact q
  have g1 : ((s.heap.push o1).push o2).get? s.heap.objs.size = some o1 :=
    Heap.get?_push_of_some _ (Heap.get?_push_size _ (by rw [← eo]; rfl))
  show _ ∧ _
  rw [hz]
  refine ⟨⟨o2, g2, by rw [← ee]⟩, h _ ?_ ⟨o1, g1, by rw [← eo], by rw [← eo]; rfl⟩ (by rw [Heap.size_push, hz]) fun b o q => Heap.get?_push_of_some _ (Heap.get?_push_of_some _ q)⟩
  show _ = some _
  rw [g2, ← ee]
end
def Iet (K : PySem.W.Frag) (a : Addr) : It :=
  ⟨fun i H => ∃ (xs : List V) (x : V), SqT K H a xs ∧ xs[i]? = some x,
   fun i H v H' => ∃ T x, v = .ref T ∧ H T = none ∧ H' = upd H T (.tup [.int (i : Nat), x]) ∧ ∀ xs, SqT K H a xs → xs[i]? = some x,
   fun i H => ∃ xs : List V, SqT K H a xs ∧ xs.length ≤ i⟩
theorem turn_enumT {P : Program} {w : World} {K : PySem.W.Frag} {elts : List Expr} {kk : Nat} {tpos : Pos} (a e it : Addr) :
    Turn P w K (.Tuple elts kk tpos) (Iet K a) [e, it] e (fun i h => (∃ old, IsEnum h e it ((i : Nat) : Int) old) ∧ h.IsTupleIter it a i ∧ e ≠ it ∧ a ≠ it ∧ e ≠ a) where
  mem := by simp
  obj := fun i h st b hb => by
    obtain ⟨⟨old, he⟩, ⟨o, ho, hc, hd⟩, _⟩ := st
    have e' : b = e ∨ b = it := by simpa using hb
    rcases e' with rfl | rfl
    · exact ⟨_, he, fun v q => nomatch q⟩
    · exact ⟨o, ho, fun v q => by rw [hd] at q; cases q⟩
  keep := fun i h h' st k => let ⟨⟨old, he⟩, hi, hne⟩ := st; ⟨⟨old, k e (by simp) _ he⟩, hi.at fun o q => k it (by simp) o q, hne⟩
  item := by
    intro X hP hw hK hc i pins s σ H E I hf st hg
    subst hP hw hK
    obtain ⟨⟨old, he⟩, hit, hne, hai, hea⟩ := st
    obtain ⟨xs, x, hq, hx⟩ := hg
    obtain ⟨its, rv, p, hz⟩ := I.tuple hq
    obtain ⟨u, hu, ru⟩ := rv.get hx
    have hel : e < s.heap.objs.size := Heap.lt_size he
    have hil : it < s.heap.objs.size := by obtain ⟨_, q, _⟩ := hit; exact Heap.lt_size q
    have hlt : i < its.toArray.size := by
      have := (List.getElem?_eq_some_iff.mp hu).1
      simpa using this
    have pT : s.heap.IsTuple a its.toArray := p
    refine wpAny_pyNext_enum_itemD (Draws.tuple (A := X.A.in1) (I.ok.hd hc) it a hai its.toArray) he ⟨hit, pT⟩ hlt hne (by simp [hne, hea]) ?_
    intro u2 h' tk hu2 ho st2 hT hsz hk
    have eu : u2 = u := by
      have q : its.toArray[i]? = some u := by simpa using hu
      exact Option.some.inj (hu2.symm.trans q)
    subst eu
    refine ⟨_, rfl, wpAny_letOwnedTupleGo_enum (s := { s with heap := h', toks := tk + 1 }) ho fun h2 he' sb => ?_⟩
    have hT2 : h2.get? s.heap.objs.size = some { cls := .type "tuple", data := .seq #[.int i tk, u2] } := (sb.2 _ (Nat.ne_of_gt hel)).trans hT
    have new : ObjOk X.prog X.w (upd H s.heap.objs.size (.tup [.int (i : Nat), x])) h2 s.heap.objs.size (.tup [.int (i : Nat), x]) :=
      ⟨by show 2 ≤ sizeLine; decide, [.int i tk, u2], .cons ⟨_, rfl⟩ (.cons ru .nil), ⟨_, hT2, rfl, _, rfl⟩⟩
    have I1 : Inv X pins σ (upd H s.heap.objs.size (.tup [.int (i : Nat), x])) { s with heap := h2, toks := tk + 1 } :=
      I.turnedNew (ch := [e, it]) (fun b ob hb q => (sb.2 b (fun z => hb (by simp [z]))).trans (hk b ob (fun z => hb (by simp [z])) (fun z => hb (by simp [z])) q)) hf (Nat.le_refl _) new
    refine ⟨.ref s.heap.objs.size, _, I1, rfl, ⟨_, x, rfl, I.hok.fresh (Nat.le_refl _), rfl, fun ys hy => by rw [I.tuple_inj hy hq]; exact hx⟩, ⟨⟨u2, ?_⟩, st2.1.at fun o q => (sb.2 it (Ne.symm hne)).trans q, hne, hai, hea⟩, fun b hb => ?_⟩
    · have e1 : ((i + 1 : Nat) : Int) = (i : Int) + 1 := by omega
      rw [e1]; exact he'
    · have e' : b = e ∨ b = it := by simpa using hb
      have hb' : b < s.heap.objs.size := by rcases e' with rfl | rfl <;> assumption
      rw [upd_ne (Nat.ne_of_lt hb')]
      exact (hf b hb).1
  done := by
    intro X hP hw hK hc i pins s σ H E I hf st hg
    subst hP hw hK
    obtain ⟨⟨old, he⟩, hit, hne, hai, hea⟩ := st
    obtain ⟨xs, hq, hx⟩ := hg
    obtain ⟨its, rv, p, hz⟩ := I.tuple hq
    obtain ⟨f0, f1, f2, f3, f4, f5⟩ := hf it (by simp)
    have hl := rv.length
    have pT : s.heap.IsTuple a its.toArray := p
    have hT : s.TypeIs (.ref e) "enumerate" := ⟨_, he, rfl⟩
    unfold pyNext
    refine wpAny_bind (wpAny_attempt (wpAny_callSpecial?_slot (name := Str.ofString "__next__") hT F.slot_enumerate_next
      (wpAny_call_entry F.slot_enumerate_next hT F.entry_enumerate_next ?_ (F.args_enumerate_next_1 _))))
    show wpAny _ _ (field (.ref e) 2 >>= _) _ _ _
    refine wpAny_bind (wpAny_field he rfl (x := .ref it) rfl (wpAny_bind (wpAny_nextOf_tuple_end (I.ok.hd hc) hit pT (by simp; omega) ?_)))
    intro h' y he' hx'
    obtain ⟨o, ho, hco⟩ := hx'
    refine wpAny_bind (wpAny_isInstance (T := "StopIteration") (b := true) ⟨o, ho, hco⟩ isSubtype_stop ?_)
    exact wpAny_pure ⟨rfl, I.turned (t' := s.toks) (fun b o hb q => he' b o hb q) f0 f1 f3 f4 f5⟩
  self := fun A i s Q E st h => let ⟨⟨_, he⟩, _⟩ := st; wpAny_pyIter_enum he h

def iEnumT (K : PySem.W.Frag) (ta : TA) : TI := fun σ H R => ta σ H fun vs H1 => ∃ a xs, vs = [.ref a] ∧ SqT K H1 a xs ∧ R (Iet K a) H1
theorem pi_enumT {X : Cx} {e : Expr} {ta : TA} {p pos tpos : Pos} {elts : List Expr} {kk : Nat} (hg : Gl X "enumerate") (hm : X.mg "enumerate" = none)
    (ha : PA X [e] ta) (hs : starEach [e] X.env = [(false, eval e X.env)] := by rfl) :
    PI X (.Tuple elts kk tpos) (.Call (.Name "enumerate" p) [e] [] pos) (iEnumT X.K ta) := by
  refine ⟨fun pins s σ H R I h => ?_⟩
  refine Call_ (ld_blt I hg hm boot_enumerate (PyProof.Rows.callWith_type1 (thn (ha.run pos pins s σ H _ I h) ?_) hs rfl))
  rintro us s1 ⟨vs, H1, I1, r1, a, xs, rfl, hq, q⟩
  match us, r1 with
  | [u], .cons r .nil =>
    cases r
    obtain ⟨its, rv, pt, hz⟩ := I1.tuple hq
    have alt : a < s1.heap.objs.size := by
      obtain ⟨o, ho, _⟩ := pt
      exact Heap.lt_size ho
    refine call_enumT pt fun h' he hit hsz hk => wpAny_pyIter_enum he ?_
    have I2 : Inv X pins σ H1 { s1 with heap := h' } := I1.kept (t' := s1.toks) hk
    refine ⟨s1.heap.objs.size + 1, [s1.heap.objs.size + 1, s1.heap.objs.size], _, _, H1, rfl, I2, turn_enumT a (s1.heap.objs.size + 1) s1.heap.objs.size,
      ⟨⟨.none, he⟩, hit, Nat.succ_ne_self _, Nat.ne_of_lt alt, Nat.ne_of_gt (Nat.lt_succ_of_lt alt)⟩, fun b hb => ?_, q⟩
    have hle : s1.heap.objs.size ≤ b := by
      have e' : b = s1.heap.objs.size + 1 ∨ b = s1.heap.objs.size := by simpa using hb
      rcases e' with rfl | rfl
      · exact Nat.le_add_right _ _
      · exact Nat.le_refl _
    exact I1.fpOk hle (I1.hok.fresh hle)
theorem walk_enumT {K : PySem.W.Frag} {a : Addr} {xs : List V} : Walk (Iet K a) xs.length (fun H => SqT K H a xs) (YPair (fun i => some (.int (i : Nat))) (fun i => xs[i]?)) := by
  refine ⟨fun i _ hi q => ⟨xs, xs[i], q, by simp [hi]⟩, fun _ q => ⟨xs, q, Nat.le_refl _⟩, fun i H v H' _ q y => ?_⟩
  obtain ⟨T, x, h1, h2, h3, h4⟩ := y
  exact ⟨T, .int (i : Nat), x, h1, h2, h3, rfl, h4 xs q⟩

/-! ### an own class's special methods -/
section
variable {X : Cx} {CX : CXT} {k : Nat} {f C : Addr} {fd : FuncData} {ps : List Str} {sp : Sp} {E : XK}
/-- an instance of C stands there -/
theorem inst_at {pins : List (Addr × Obj)} {σ : L2.St} {H : Hp} {s : Shared} {a dx : Addr} {fs : List (Str × V)} (I : Inv X pins σ H s) (h : H a = some (.ins C dx fs)) :
    ∃ ox od, PySem.W.InstAt s.heap a ox C od := by
  obtain ⟨mA, J, _⟩ := ins_get I.hok h
  obtain ⟨od, J, _⟩ := J.look
  exact ⟨_, _, J⟩
/-- x in o, by an own __contains__ -/
theorem own_in (F : FnOk X.prog X.w X.K X.mg X.base CX k f fd ps sp) (hr : Room k X.A) (hs : PySem.W.findIn X.K (.ref C) "__contains__" = some (some (.ref f)))
    (hf : PySem.W.isFn X.K (.ref f) = true) (hb : Binds X.K fd ps []) (hx : Passes CX X E) :
    OpR X (compareOp .In) (fun x y H Q => ∃ a dx fs, y = .ref a ∧ H a = some (.ins C dx fs) ∧ sp [y, x] H (fun v H' => ∃ b, v = .bl b ∧ Q (.bl b) H') E) := by
  intro pins s σ H x y v u Q I rx ry h
  obtain ⟨a, dx, fs, rfl, ha, q⟩ := h
  cases ry
  obtain ⟨ox, od, J⟩ := inst_at I ha
  obtain ⟨m, hF⟩ := I.fr
  refine PySem.W.in_K hF I.ok.mod.kin J hs hf ?_
  refine wpAny_mono (run_fn (us := [.ref a, v]) (vs := [.ref a, x]) F hr hb .nil hx I (.cons rfl (.cons rx .nil)) q) ?_ fun _ _ z => z
  rintro r s' ⟨z, H', I', rz, b, rfl, qq⟩
  cases rz
  exact wpAny_truthy_bool ⟨.bl b, H', I', rfl, qq⟩
/-- o op p, both of C, by an own operator -/
theorem own_bin {op : Operator} (F : FnOk X.prog X.w X.K X.mg X.base CX k f fd ps sp) (hr : Room k X.A) (hc : PySem.W.selfFirst X.K C = true)
    (hs : PySem.W.findIn X.K (.ref C) (PySem.dunder op.info.2) = some (some (.ref f))) (hf : PySem.W.isFn X.K (.ref f) = true) (hb : Binds X.K fd ps []) (hx : Passes CX X E) :
    OpR X (binaryOp op) (fun x y H Q => ∃ a b dx dy fs gs, x = .ref a ∧ y = .ref b ∧ H a = some (.ins C dx fs) ∧ H b = some (.ins C dy gs) ∧ sp [x, y] H Q E) := by
  intro pins s σ H x y v u Q I rx ry h
  obtain ⟨a, b, dx, dy, fs, gs, rfl, rfl, ha, hb', q⟩ := h
  cases rx
  cases ry
  obtain ⟨ox, od, J⟩ := inst_at I ha
  obtain ⟨oy, oe, J'⟩ := inst_at I hb'
  obtain ⟨m, hF⟩ := I.fr
  refine PySem.W.binop_K hF I.ok.mod.kin J J'.type hc hs hf ?_
  refine wpAny_mono (run_fn (us := [.ref a, .ref b]) (vs := [.ref a, .ref b]) F hr hb .nil hx I (.cons rfl (.cons rfl .nil)) q) ?_ fun _ _ z => z
  rintro r s' ⟨z, H', I', rz, qq⟩
  have fin : EP X pins σ Q r s' := ⟨z, H', I', rz, qq⟩
  cases r with
  | notImplemented => cases z <;> first | (cases rz; done) | (obtain ⟨t, e⟩ := rz; cases e)
  | _ => exact fin
/-- what runs one level deeper -/
theorem run_in1 {pins : List (Addr × Obj)} {σ : L2.St} {H : Hp} {s : Shared} {Q : VK} {us : List Value} {vs : List V} (F : FnOk X.prog X.w X.K X.mg X.base CX k f fd ps sp) (hr : Room (k + 1) X.A)
    (hb : Binds X.K fd ps []) (hx : Passes CX X E) (I : Inv X pins σ H s) (r : Vals vs us) (h : sp vs H Q E) :
    wpAny (model X.prog X.w) X.A.in1 (call (.ref f) us) (EP X pins σ Q) X.xe s := by
  have hl : (us ++ []).length = ps.length := by rw [List.append_nil, ← r.length]; exact F.len _ _ _ _ h
  have hbi := hb s us I.kIn hl
  rw [List.append_nil] at hbi
  refine wpAny_call (codeAny_mono (F.run X.A.in1 X.stack s H ⟨us, []⟩ us vs Q E hr.in1 I.env0.in1 hbi r h) ?_)
  intro r s' hq
  match r, hq with
  | .error e, hq => exact hx pins σ H s e s' I hq
  | .ok (.ret u), hq => exact I.after hq
  | .ok .next, hq => exact False.elim hq
  | .ok .brk, hq => exact False.elim hq
  | .ok .cont, hq => exact False.elim hq
/-- len(o), by an own __len__ -/
theorem own_len (F : FnOk X.prog X.w X.K X.mg X.base CX k f fd ps sp) (hr : Room (k + 1) X.A) (hs : PySem.W.findIn X.K (.ref C) "__len__" = some (some (.ref f)))
    (hf : PySem.W.isFn X.K (.ref f) = true) (hb : Binds X.K fd ps []) (hx : Passes CX X E) :
    CallR X (.builtin "len") (fun xs H Q => ∃ a dx fs, xs = [.ref a] ∧ H a = some (.ins C dx fs) ∧ sp [.ref a] H (fun v H' => ∃ n : Nat, n < 2 ^ 62 ∧ v = .int n ∧ Q (.int n) H') E) := by
  intro pins s σ H xs us Q I r h
  obtain ⟨a, dx, fs, rfl, ha, q⟩ := h
  obtain ⟨u, rfl, ru⟩ := vals1 r
  cases ru
  obtain ⟨ox, od, J⟩ := inst_at I ha
  obtain ⟨m, hF⟩ := I.fr
  refine PySem.W.len_K hF I.ok.mod.kin J hs hf ?_
  refine wpAny_mono (run_in1 (us := [.ref a]) (vs := [.ref a]) F hr hb hx I (.cons rfl .nil) q) ?_ fun _ _ z => z
  rintro r s' ⟨z, H', I', rz, n, hn, rfl, qq⟩
  obtain ⟨t, rfl⟩ := rz
  exact ⟨⟨by omega, by omega⟩, .int n, H', I'.tok _, ⟨_, rfl⟩, qq⟩
/-- o == p, both of C, by an own __eq__ -/
theorem own_eq (F : FnOk X.prog X.w X.K X.mg X.base CX k f fd ps sp) (hr : Room k X.A) (hs : PySem.W.findIn X.K (.ref C) "__eq__" = some (some (.ref f)))
    (hf : PySem.W.isFn X.K (.ref f) = true) (hb : Binds X.K fd ps []) (hx : Passes CX X E) :
    OpR X (compareOp .Eq) (fun x y H Q => ∃ a b dx dy fs gs, x = .ref a ∧ y = .ref b ∧ H a = some (.ins C dx fs) ∧ H b = some (.ins C dy gs) ∧ sp [x, y] H (fun v H' => ∃ b, v = .bl b ∧ Q (.bl b) H') E) := by
  intro pins s σ H x y v u Q I rx ry h
  obtain ⟨a, b, dx, dy, fs, gs, rfl, rfl, ha, hb', q⟩ := h
  cases rx
  cases ry
  obtain ⟨ox, od, J⟩ := inst_at I ha
  obtain ⟨oy, oe, J'⟩ := inst_at I hb'
  obtain ⟨m, hF⟩ := I.fr
  show wpAny (model X.prog X.w) X.A (richCompare .Eq (.ref a) (.ref b)) (EP X pins σ Q) X.xe s
  refine PySem.W.cmp_K (op := .Eq) (tb := .ref C) hr.units0 hF I.ok.mod.kin J J'.type (by simp [PySem.W.notFirst]) hs hf ?_
  refine wpAny_mono (run_fn (us := [.ref a, .ref b]) (vs := [.ref a, .ref b]) F hr hb .nil hx I (.cons rfl (.cons rfl .nil)) q) ?_ fun _ _ z => z
  rintro r s' ⟨z, H', I', rz, c, rfl, qq⟩
  cases rz
  exact ⟨.bl c, H', I', rfl, qq⟩
/-- o != p, both of C, by an own __eq__ and no own __ne__ -/
theorem own_ne (F : FnOk X.prog X.w X.K X.mg X.base CX k f fd ps sp) (hr : Room (k + 1) X.A) (hs : PySem.W.findIn X.K (.ref C) "__eq__" = some (some (.ref f)))
    (hn : PySem.W.findIn X.K (.ref C) "__ne__" = some (some (.builtin "object.__ne__"))) (hm : PySem.W.mroIn X.K C (.type "object") = some true)
    (hf : PySem.W.isFn X.K (.ref f) = true) (hb : Binds X.K fd ps []) (hx : Passes CX X E) :
    OpR X (compareOp .NotEq) (fun x y H Q => ∃ a b dx dy fs gs, x = .ref a ∧ y = .ref b ∧ H a = some (.ins C dx fs) ∧ H b = some (.ins C dy gs) ∧ sp [x, y] H (fun v H' => ∃ b, v = .bl b ∧ Q (.bl (!b)) H') E) := by
  intro pins s σ H x y v u Q I rx ry h
  obtain ⟨a, b, dx, dy, fs, gs, rfl, rfl, ha, hb', q⟩ := h
  cases rx
  cases ry
  obtain ⟨ox, od, J⟩ := inst_at I ha
  obtain ⟨oy, oe, J'⟩ := inst_at I hb'
  have KX := I.kIn
  have hu1 : X.A.units + 1 < cLine := by have := hr.un; omega
  have entry : ∀ (R : Fin → Shared → Prop), (∀ c s', EP X pins σ Q (.bool (!c)) s' → R (.done (.ret (.bool (!c)))) s') →
      wpAny (model X.prog X.w) X.A.in1 (Builtin.«object.__ne__» ⟨[.ref a, .ref b], []⟩) R X.xe s := by
    intro R hR
    unfold Builtin.«object.__ne__»
    refine wpAny_bind (m := slotArgs "__ne__" 1 _) (wpAny_pure ?_)
    refine wpAny_bind (wpAny_cRoomFor hu1 ?_)
    refine wpAny_bind (PySem.W.ifBound_K KX J hs hf ?_)
    refine wpAny_mono (run_in1 (us := [.ref a, .ref b]) (vs := [.ref a, .ref b]) F hr hb hx I (.cons rfl (.cons rfl .nil)) q) ?_ fun _ _ z => z
    rintro r s' ⟨z, H', I', rz, c, rfl, qq⟩
    cases rz
    exact wpAny_bind (wpAny_truthy_bool (wpAny_pure (hR c s' ⟨.bl (!c), H', I', rfl, qq⟩)))
  have hobj : PySem.W.Looks (model X.prog X.w) s.heap (isInstance (.ref a) (.type "object")) true := J.type.andThen (PySem.W.looks_mroIn KX hm)
  have call2 : ∀ (R : Value → Shared → Prop), (∀ c s', EP X pins σ Q (.bool (!c)) s' → R (.bool (!c)) s') →
      wpAny (model X.prog X.w) X.A (call (.builtin "object.__ne__") [.ref a, .ref b]) R X.xe s := by
    intro R hR
    refine wpAny_call (codeAny_call_builtin PySem.F.cmp_object.ne.plain PySem.F.cmpEntry_ne ?_)
    refine PySem.W.check_slot PySem.F.cmpKind_ne PySem.F.cmpSplit_ne hobj (PySem.F.cmpArgs_ne _ _) ?_
    exact entry _ fun c s' h => hR c s' h
  show wpAny (model X.prog X.w) X.A (richCompare .NotEq (.ref a) (.ref b)) (EP X pins σ Q) X.xe s
  unfold richCompare
  simp only [oneThing_ref]
  refine wpAny_holding (wpAny_bind (wpAny_cRoomFor (Nat.lt_of_succ_lt hu1) ?_))
  rw [cmpInfo_NotEq]
  dsimp only
  refine wpAny_bind (J.type.here (wpAny_bind (J'.type.here ?_)))
  rw [show (Value.ref C != Value.ref C) = false from by simp]
  simp only [Bool.false_eq_true, if_false]
  refine wpAny_bind (wpAny_pure ?_)
  simp only [Bool.false_eq_true, if_false]
  refine wpAny_bind ?_
  simp only [tryCompare]
  refine wpAny_bind ?_
  simp only [callSpecialIfBound?, bindSpecialIfBound?]
  refine wpAny_holding (wpAny_bind (wpAny_bind (wpAny_bind (J.type.here ((PySem.W.looks_findIn KX hn).here ?_)))))
  simp only [PySem.F.cmp_object.ne.bind]
  refine wpAny_bind (wpAny_askSetting (wpAny_ite ?_))
  have fin : ∀ (R : Option Value → Shared → Prop), (∀ c s', EP X pins σ Q (.bool (!c)) s' → R (some (.bool (!c))) s') →
      wpAny (model X.prog X.w) X.A (call (.builtin "object.__ne__") ([.ref a] ++ [.ref b]) >>= fun v => pure (some v)) R X.xe s :=
    fun R hR => wpAny_bind (call2 _ fun c s' h => wpAny_pure (hR c s' h))
  have last : ∀ (R : Option Value → Shared → Prop), (∀ c s', EP X pins σ Q (.bool (!c)) s' → R (some (.bool (!c))) s') →
      wpAny (model X.prog X.w) X.A (do let z ← pure (Value.builtin "object.__ne__", [Value.ref a]); pure (some z)) (fun r s' =>
        wpAny (model X.prog X.w) X.A (match r with
          | some (g, first) => do let z ← call g (first ++ [Value.ref b]); pure (some z)
          | _ => pure none) R X.xe s') X.xe s := fun R hR => wpAny_bind (wpAny_pure (wpAny_pure (fin R hR)))
  split
  · exact last _ fun c s' h => wpAny_pure (wpAny_pure h)
  · exact wpAny_tryCatch (last _ fun c s' h => wpAny_pure (wpAny_pure h))
end
end Sn

/-! ## Rules of our own: C(), C(*xs), cls(*xs), C.m(), o.m(k = v) -/
namespace Sn
open PySem PySem.Spec PyProof.Rows L2
section
variable {X : Cx} {CX : CXT} {k i : Nat} {f C : Addr} {fd : FuncData} {ps : List Str} {sp : Sp} {E : XK} {x m : Str} {e o : Expr} {es : List Expr} {te ta : TE} {t : TA} {p sp_ pos apos : Pos}
/-- C(), __init__ with a star -/
theorem pe_makeR0 (M : Mk X.K C f) (F : FnR X.prog X.w X.K X.mg X.base CX k f sp) (hr : Room (k + 1) X.A) (hg : Gl X x) (hm : X.mg x = some (.ref C)) (hx : Passes CX X E)
    (hdb : (x == ("__debug__" : Str)) = false := by decide) : PE X (.Call (.Name x p) [] [] pos) (StX.tMakeR C sp E tNil) :=
  ⟨fun pins s σ H Q I h => wpAny_Call_Name_kw (ld_glob I hg hm (PySem.W.callWith_K0 I.kIn M.kp (StX.run_makeR (us := []) M F hr hx I .nil h)) hdb)⟩
/-- C(*xs): xs a tuple or a list -/
def tMakeS (K : PySem.W.Frag) (C : Addr) (sp : Sp) (E : XK) (te : TE) : TE := fun σ H Q => te σ H fun y H1 => ∃ a xs, y = V.ref a ∧ (SqT K H1 a xs ∨ SqL K H1 a xs) ∧
  ∀ x dx, H1 x = none → H1 dx = none → dx ≠ x → sp (V.ref x :: xs) (upd (upd H1 dx (.own x)) x (.ins C dx [])) (fun v H2 => v = .non ∧ Q (.ref x) H2) E
theorem pe_makeS (M : Mk X.K C f) (F : FnR X.prog X.w X.K X.mg X.base CX k f sp) (hr : Room (k + 1) X.A) (hg : Gl X x) (hm : X.mg x = some (.ref C)) (hx : Passes CX X E) (he : PE X e te)
    (hdb : (x == ("__debug__" : Str)) = false := by decide) (hst : starEach [.Starred e sp_] X.env = [(true, eval e X.env)] := by rfl) :
    PE X (.Call (.Name x p) [.Starred e sp_] [] pos) (tMakeS X.K C sp E te) := by
  refine ⟨fun pins s σ H Q I h => wpAny_Call_Name_kw (ld_glob I hg hm ?_ hdb)⟩
  refine PySem.W.callWith_S (h₀ := X.base) I.ok.mod.kin M.kp (thn (he.run pins s σ H _ I h) ?_) hst
  rintro v s1 ⟨y, H1, I1, ry, a, xs, rfl, hxs, q⟩
  cases ry
  exact StX.star_any I1 hxs fun us s2 I2 rv => ⟨I2.kIn, StX.run_makeR M F hr hx I2 rv q⟩
/-- cls(*xs), cls a name of the def that holds the class C -/
theorem pe_clsS (M : Mk X.K C f) (F : FnR X.prog X.w X.K X.mg X.base CX k f sp) (hr : Room (k + 1) X.A) (hN : X.N[i]? = some x) (hv : Vis X.env.scope x) (hx : Passes CX X E) (he : PE X e te)
    (hdb : (x == ("__debug__" : Str)) = false := by decide) (hcd : (x == ("__classdict__" : Str)) = false := by decide) (hst : starEach [.Starred e sp_] X.env = [(true, eval e X.env)] := by rfl) :
    PE X (.Call (.Name x p) [.Starred e sp_] [] pos) (fun σ H Q => σ[i]? = some (some (.ref C)) ∧ tMakeS X.K C sp E te σ H Q) := by
  refine ⟨fun pins s σ H Q I h => ?_⟩
  obtain ⟨h1, h2⟩ := h
  refine Call_ (thn ((pe_var (pos := p) hN hv hdb hcd).run pins s σ H (fun v H' => v = .ref C ∧ H' = H) I ⟨_, h1, rfl, rfl⟩) ?_) (by rfl)
  rintro u s1 ⟨y, H1, I1, ry, rfl, rfl⟩
  cases ry
  refine PySem.W.callWith_S (h₀ := X.base) I1.ok.mod.kin M.kp (thn (he.run pins s1 σ _ _ I1 h2) ?_) hst
  rintro v s2 ⟨y, H2, I2, ry, a, xs, rfl, hxs, q⟩
  cases ry
  exact StX.star_any I2 hxs fun us s3 I3 rv => ⟨I3.kIn, StX.run_makeR M F hr hx I3 rv q⟩
/-- C.m(), m a classmethod -/
theorem pe_cmeth0 {mc : Value} {q g : Addr} {pl : Sem Bool} (he : PE X o ta) (r : ClX.CRead X.K C mc) (c : ClX.CMet X.K C mc m q g) (F : FnR X.prog X.w X.K X.mg X.base CX k g sp) (hr : Room k X.A) (hx : Passes CX X E)
    (ht : eval (.Call (.Attribute o m apos) [] [] pos) X.env = (do
      let ov ← eval o X.env
      standAt apos.atName
      let (f, first) ← holding [ov] (getMethod ov m pl)
      callWith pos f first (backTo pos (starEach [] X.env)) (backToKw pos (keywordEach [] X.env))) := by rfl) :
    PE X (.Call (.Attribute o m apos) [] [] pos) (ClX.tCMeth C sp E ta tNil) := by
  refine ⟨fun pins s σ H Q I h => ?_⟩
  refine PySem.W.methodCall_KW (pl := pl) (thn (he.run pins s σ H _ I h) ?_) ht
  rintro u s1 ⟨y, H1, I1, ry, rfl, z⟩
  cases ry
  refine ClX.getmethcm_ok I1 r c fun s2 I2 => ?_
  exact PySem.W.callWith_M0 (first := []) (K := X.K) ⟨ClX.pin_at I2, I2.kIn⟩ c.fi (ClX.run_cm (us := []) F hr hx I2 .nil z)
/-- o.m(k = v), keywords alone -/
def tMethK (C : Addr) (m : Str) (sp : Sp) (gV : List V → List V → List V) (E : XK) (ta : TE) (tk : TA) : TE := fun σ H Q => ta σ H fun x H1 => ∃ a dx fs, x = .ref a ∧ H1 a = some (.ins C dx fs) ∧ fs.lookup m = none ∧
  tk σ H1 fun zs H2 => sp (gV [x] zs) H2 Q E
theorem pe_methK0 {pl : Sem Bool} {kws : List Keyword} {tk : TA} {ks : List Str} {g : List Value → List Value → List Value} {gV : List V → List V → List V} (he : PE X o ta) (c : Cls X.K C) (hm : Meth X.K C m f)
    (F : FnOk X.prog X.w X.K X.mg X.base CX k f fd ps sp) (hr : Room k X.A) (hb : KBinds X.K fd ps ks g gV) (hx : Passes CX X E) (hkw : PK X kws tk)
    (hall : (backToKw pos (keywordEach kws X.env)).all (·.1.isSome) = true := by rfl) (hks : (backToKw pos (keywordEach kws X.env)).filterMap (·.1) = ks := by rfl)
    (hpl : (backToKw pos (keywordEach kws X.env)).any (·.1.isNone) = false := by rfl)
    (ht : eval (.Call (.Attribute o m apos) [] kws pos) X.env = (do
      let ov ← eval o X.env
      standAt apos.atName
      let (f, first) ← holding [ov] (getMethod ov m pl)
      callWith pos f first (backTo pos (starEach [] X.env)) (backToKw pos (keywordEach kws X.env))) := by rfl) :
    PE X (.Call (.Attribute o m apos) [] kws pos) (tMethK C m sp gV E ta tk) := by
  refine ⟨fun pins s σ H Q I h => ?_⟩
  refine PySem.W.methodCall_KW (pl := pl) (thn (he.run pins s σ H _ I h) ?_) ht
  rintro u s1 ⟨y, H1, I1, ry, a, dx, fs, rfl, ea, l, q⟩
  cases ry
  refine getmeth_ok I1 ea c hm l ?_
  refine PySem.W.callWith_KW0 (first := [.ref a]) (h₀ := X.base) I.ok.mod.kin hm.kp hall (thn (hkw.run pos pins s1 σ H1 _ I1 q) ?_) hpl
  rintro ws s2 ⟨zs, H2, I2, rz, q2⟩
  refine ⟨I2.kIn, ?_⟩
  rw [hks]
  exact run_fnk (us := [.ref a]) (vs := [.ref a]) F hr hb hx I2 (.cons rfl .nil) rz q2
/-- e.f, where the knowledge is named (in a comprehension) -/
theorem pe_fldK {K : PySem.W.Frag} {f : Str} (he : PE X e te) (hb : attributeBase e f X.env (eval e X.env) = eval e X.env := by rfl) (hK : X.K = K := by rfl) : PE X (.Attribute e f pos) (tFld K te f) := by
  subst hK
  exact pe_fld he hb
theorem op_in_seqK {K : PySem.W.Frag} (hK : X.K = K := by rfl) : OpR X (compareOp .In) (rIn K false) := by
  subst hK
  exact op_in_seq
theorem op_notIn_seqK {K : PySem.W.Frag} (hK : X.K = K := by rfl) : OpR X (compareOp .NotIn) (rIn K true) := by
  subst hK
  exact op_notIn_seq
theorem op_eqDK {K : PySem.W.Frag} (hu : X.A.units + 64 < cLine) (hK : X.K = K := by rfl) : OpR X (compareOp .Eq) (rEqD K) := by
  subst hK
  exact op_eqD hu
theorem op_neDK {K : PySem.W.Frag} (hu : X.A.units + 64 < cLine) (hK : X.K = K := by rfl) : OpR X (compareOp .NotEq) (rNeD K) := by
  subst hK
  exact op_neD hu
theorem ix_listK {K : PySem.W.Frag} (hK : X.K = K := by rfl) : IxR X (rIxL K) := by
  subst hK
  exact ix_list
theorem ix_tupK {K : PySem.W.Frag} (hK : X.K = K := by rfl) : IxR X (rIxT K) := by
  subst hK
  exact ix_tup
end
end Sn

/-! ## Rules of our own: bool(o), o == v of any v, repr of scalars -/
namespace Sn
open PySem PySem.Spec PyProof.Rows L2
def isTy : Value → Bool
  | .type _ => true
  | _ => false
/-- a built-in type is no own class -/
theorem sub_own {K : PySem.W.Frag} {T : String} (C : Addr) (h : ((fastBuiltinMro T).map fun l => l.all isTy) = some true) : PySem.W.subIn K (.type T) (.ref C) = some false := by
  show (fastBuiltinMro T).map (·.contains (.ref C)) = _
  cases e : fastBuiltinMro T with
  | none => rw [e] at h; cases h
  | some l =>
    rw [e] at h
    have hl : l.all isTy = true := Option.some.inj h
    show some (l.contains (.ref C)) = _
    congr 1
    refine Bool.eq_false_iff.mpr fun q => ?_
    have := List.all_eq_true.mp hl _ (List.contains_iff_mem.mp q)
    cases this
theorem kit_not {K : PySem.W.Frag} {T : String} {C : Addr} (hc : (PySem.W.clsIn K C).isSome = true) (ht : PySem.W.typeIn K (.ref C) = some (.type "type")) (h : PySem.W.subIn K (.type T) (.ref C) = some false) : PySem.W.kitOne K (.type T) (.ref C) = some false := by
  unfold PySem.W.kitOne PySem.W.kitCls
  rw [if_neg (by simp)]
  show (if ((PySem.W.clsIn K C).isSome && PySem.W.typeIn K (.ref C) == some (.type "type")) = true then PySem.W.subIn K (.type T) (.ref C) else none) = _
  rw [if_pos (by rw [hc, ht]; rfl)]
  exact h
/-- a value of a built-in type that is met in the laws -/
inductive TyB (K : PySem.W.Frag) (H : Hp) : V → String → Prop
  | non : TyB K H .non "NoneType"
  | bl (b : Bool) : TyB K H (.bl b) "bool"
  | int (i : Int) : TyB K H (.int i) "int"
  | str (z : Str) : TyB K H (.str z) "str"
  | lst {a : Addr} {xs : List V} (h : H a = some (.lst xs)) : TyB K H (.ref a) "list"
  | tup {a : Addr} {xs : List V} (h : H a = some (.tup xs)) : TyB K H (.ref a) "tuple"
  | dK {a : Addr} {kvs : List (Key × V)} (h : H a = some (.dK kvs)) : TyB K H (.ref a) "dict"
theorem TyB.ty {K : PySem.W.Frag} {H : Hp} {v : V} {T : String} (h : TyB K H v T) : TyX K H v (.type T) := by
  cases h with
  | non => exact .base .non
  | bl b => exact .base (.bl b)
  | int i => exact .base (.int i)
  | str z => exact .base (.str z)
  | lst h => exact .base (.lst h)
  | tup h => exact .base (.tup h)
  | dK h => exact .base (.dK h)
theorem TyB.sub {K : PySem.W.Frag} {H : Hp} {v : V} {T : String} (h : TyB K H v T) (C : Addr) : PySem.W.subIn K (.type T) (.ref C) = some false := by
  cases h <;> exact sub_own C (by decide +kernel)
theorem TyB.same {K : PySem.W.Frag} {H H' : Hp} {v : V} {T : String} (h : TyB K H v T) (s : Same H H') : TyB K H' v T := by
  cases h with
  | non => exact .non
  | bl b => exact .bl b
  | int i => exact .int i
  | str z => exact .str z
  | lst h => exact .lst (s _ _ h)
  | tup h => exact .tup (s _ _ h)
  | dK h => exact .dK (s _ _ h)
section
variable {X : Cx} {CX : CXT} {k : Nat} {f C : Addr} {fd : FuncData} {ps : List Str} {sp : Sp} {E : XK}
/-- o == v, v of a built-in type, by an own __eq__ -/
theorem own_eqB (F : FnOk X.prog X.w X.K X.mg X.base CX k f fd ps sp) (hr : Room k X.A) (hs : PySem.W.findIn X.K (.ref C) "__eq__" = some (some (.ref f)))
    (hf : PySem.W.isFn X.K (.ref f) = true) (hb : Binds X.K fd ps []) (hx : Passes CX X E) :
    OpR X (compareOp .Eq) (fun x y H Q => ∃ a dx fs, x = .ref a ∧ H a = some (.ins C dx fs) ∧ ((∃ b dy gs, y = .ref b ∧ H b = some (.ins C dy gs)) ∨ ∃ T, TyB X.K H y T) ∧ sp [x, y] H (fun v H' => ∃ b, v = .bl b ∧ Q (.bl b) H') E) := by
  intro pins s σ H x y v u Q I rx ry h
  obtain ⟨a, dx, fs, rfl, ha, hy, q⟩ := h
  cases rx
  obtain ⟨ox, od, J⟩ := inst_at I ha
  obtain ⟨m, hF⟩ := I.fr
  have main : ∀ {tb : Value}, PySem.W.Looks (model X.prog X.w) s.heap (typeOf u) tb → PySem.W.notFirst X.K C tb = true → wpAny (model X.prog X.w) X.A (richCompare .Eq (.ref a) u) (EP X pins σ Q) X.xe s := by
    intro tb hty hnf
    refine PySem.W.cmp_K (op := .Eq) (tb := tb) hr.units0 hF I.ok.mod.kin J hty hnf hs hf ?_
    refine wpAny_mono (run_fn (us := [.ref a, u]) (vs := [.ref a, y]) F hr hb .nil hx I (.cons rfl (.cons ry .nil)) q) ?_ fun _ _ z => z
    rintro r s' ⟨z, H', I', rz, c, rfl, qq⟩
    cases rz
    exact ⟨.bl c, H', I', rfl, qq⟩
  show wpAny (model X.prog X.w) X.A (richCompare .Eq (.ref a) u) (EP X pins σ Q) X.xe s
  rcases hy with ⟨b, dy, gs, rfl, hb'⟩ | ⟨T, ht⟩
  · cases ry
    obtain ⟨oy, oe, J'⟩ := inst_at I hb'
    exact main J'.type (by simp [PySem.W.notFirst])
  · obtain ⟨P, Z, p, _⟩ := kit_of I ry ht.ty
    refine main (Z.ty _ _ I.kIn p) ?_
    unfold PySem.W.notFirst
    rw [ht.sub C]
    simp
/-- bool(o), by an own __bool__ -/
theorem own_bool (G : FnOk X.prog X.w X.K X.mg X.base CX k f fd ps sp) (hr : Room (k + 4) X.A) (hs : PySem.W.findIn X.K (.ref C) "__bool__" = some (some (.ref f)))
    (hf : PySem.W.isFn X.K (.ref f) = true) (hb : Binds X.K fd ps []) (hx : Passes CX X E) :
    CallR X (.type "bool") (fun xs H Q => ∃ a dx fs, xs = [.ref a] ∧ H a = some (.ins C dx fs) ∧ sp [.ref a] H (fun v H' => ∃ b, v = .bl b ∧ Q (.bl b) H') E) := by
  intro pins s σ H xs us Q I r h
  obtain ⟨a, dx, fs, rfl, ha, q⟩ := h
  obtain ⟨u, rfl, ru⟩ := vals1 r
  cases ru
  obtain ⟨ox, od, J⟩ := inst_at I ha
  obtain ⟨m, hF⟩ := I.fr
  refine ks_callType_codesW (Q₁ := fun obj s₁ => ∃ b H', obj = .bool b ∧ Inv X pins σ H' s₁ ∧ Q (.bl b) H') F.called_bool (fun h => wpAny_of_eq (F.typeCall_bool_1 _) h) F.entry_object_init ?_ ?_
  · refine codeAny_of_tree ?_
    show wpAny _ X.A.in1.in1 (do checkBuiltinCall "bool.__new__" ⟨[.type "bool", .ref a], []⟩; again (.builtin "bool.__new__" ⟨[.type "bool", .ref a], []⟩)) _ _ s
    refine wpAny_bind (wpAny_of_eq (F.newCall_bool_1 _) (wpAny_pure ⟨plainId_quiet (by decide +kernel) _, codeAny_builtin F.entry_bool_new ?_⟩))
    rw [Around.under_plainId (by decide +kernel) _]
    unfold Builtin.«bool.__new__»
    have f1 := F.conv_sub_bool
    have hl : (([Value.ref a] : List Value) ++ []).length = ps.length := by
      have := G.len _ _ _ _ q
      simpa using this
    have hbi := hb s [.ref a] I.kIn hl
    rw [List.append_nil] at hbi
    have tr : ∀ {Q' : Bool → Shared → Prop}, (∀ b s' H', Inv X pins σ H' s' → Q (.bl b) H' → Q' b s') → wpAny (model X.prog X.w) X.A.in1.in1 (truthy (.ref a)) Q' X.xe s := by
      intro Q' hQ'
      refine PySem.W.truthy_K hF I.ok.mod.kin J hs hf (wpAny_call (codeAny_mono (G.run X.A.in1.in1 X.stack s H ⟨[.ref a], []⟩ [.ref a] [.ref a] (fun v H' => ∃ b, v = .bl b ∧ Q (.bl b) H') E (hr.mono (j := k + 2) (by omega)).in1.in1 I.env0.in1.in1 hbi (.cons rfl .nil) q) ?_))
      intro r s' hq
      match r, hq with
      | .error e, hq => exact hx pins σ H s e s' I hq
      | .ok (.ret u), hq =>
        obtain ⟨z, H', I', rz, b, rfl, qq⟩ := I.after hq
        cases rz
        exact hQ' b s' H' I' qq
      | .ok .next, hq => exact False.elim hq
      | .ok .brk, hq => exact False.elim hq
      | .ok .cont, hq => exact False.elim hq
    have fin : ∀ {Q' : Bool → Shared → Prop} {E' : Value → Shared → Prop}, (∀ b s' H', Inv X pins σ H' s' → Q (.bl b) H' → Q' b s') → (∀ e s', X.xe e s' → E' e s') → wpAny (model X.prog X.w) X.A.in1.in1 (truthy (.ref a)) Q' E' s :=
      fun h1 h2 => wpAny_mono (tr h1) (fun _ _ z => z) h2
    obtain ⟨hp, g, d, tk, os⟩ := s
    repeat (any_goals (first | assumption | (with_reducible refine fin ?_ (fun _ _ z => z)) | wp_step))
    intro b s' H' I' qq
    exact wpAny_pure ⟨b, H', rfl, I', qq⟩
  · rintro obj s1 ⟨b, H', rfl, I', qq⟩
    refine ⟨rfl, F.args_object_init_2 _ _, ?_⟩
    exact object_init_meets F.called_bool.init.lookup F.called_bool.made F.newNe_bool _ _ _ _ _ ⟨rfl, rfl, .bl b, H', I', rfl, qq⟩
/-- repr of what is no container -/
def shV : V → Option Str
  | .non => some "None"
  | .bl b => some (if b then "True" else "False")
  | .int i => some (toString i)
  | _ => none
theorem call_reprS : CallR X (.builtin "repr") (fun xs H Q => ∃ (x : V) (z : Str), xs = [x] ∧ shV x = some z ∧ (∀ i, x = .int i → i.natAbs.log2 < 1920) ∧ Q (.str z) H) := by
  intro pins s σ H xs us Q I r h
  obtain ⟨x, z, rfl, hz, hi, q⟩ := h
  obtain ⟨u, rfl, ru⟩ := vals1 r
  cases x <;> first | (cases hz; done) | skip
  · cases ru
    cases hz
    exact PySem.P.repr_of_none ⟨.str _, H, I.tok _, ⟨_, rfl⟩, q⟩
  · cases ru
    cases hz
    exact PySem.P.repr_of_bool ⟨.str _, H, I.tok _, ⟨_, rfl⟩, q⟩
  · obtain ⟨t, rfl⟩ := ru
    cases hz
    exact PySem.P.repr_of_int (hi _ rfl) ⟨.str _, H, I.tok _, ⟨_, rfl⟩, q⟩
end
end Sn

/-! ## Data that stands on the heap: none, bools, ints, texts, lists and tuples of such -/
namespace Sn
open PySem PySem.Spec PyProof.Rows L2
mutual
/-- the value v is the data d -/
inductive Dh (H : Hp) : V → PyData → Prop
  | non : Dh H .non .none
  | bl (b : Bool) : Dh H (.bl b) (.bool b)
  | int (i : Int) : Dh H (.int i) (.int i)
  | str (x : Str) : Dh H (.str x) (.str x)
  | lst {a : Addr} {xs : List V} {ds : List PyData} : H a = some (.lst xs) → DhAll H xs ds → Dh H (.ref a) (.list ds)
  | tup {a : Addr} {xs : List V} {ds : List PyData} : H a = some (.tup xs) → DhAll H xs ds → Dh H (.ref a) (.tuple ds)
inductive DhAll (H : Hp) : List V → List PyData → Prop
  | nil : DhAll H [] []
  | cons {v : V} {vs : List V} {d : PyData} {ds : List PyData} : Dh H v d → DhAll H vs ds → DhAll H (v :: vs) (d :: ds)
end
mutual
theorem Dh.same {H H' : Hp} (sm : Same H H') : ∀ {v : V} {d : PyData}, Dh H v d → Dh H' v d
  | _, _, .non => .non
  | _, _, .bl b => .bl b
  | _, _, .int i => .int i
  | _, _, .str x => .str x
  | _, _, .lst h a => .lst (sm _ _ h) (a.same sm)
  | _, _, .tup h a => .tup (sm _ _ h) (a.same sm)
theorem DhAll.same {H H' : Hp} (sm : Same H H') : ∀ {v : List V} {d : List PyData}, DhAll H v d → DhAll H' v d
  | _, _, .nil => .nil
  | _, _, .cons h a => .cons (h.same sm) (a.same sm)
end
mutual
theorem Dh.dp {K : PySem.W.Frag} {H : Hp} : ∀ {v : V} {d : PyData}, Dh H v d → Dp K H v d
  | _, _, .non => .non
  | _, _, .bl b => .bl b
  | _, _, .int i => .int i
  | _, _, .str x => .str x
  | _, _, .lst h a => .lst (.inl (.inl h)) a.dp
  | _, _, .tup h a => .tup (.inl (.inl h)) a.dp
theorem DhAll.dp {K : PySem.W.Frag} {H : Hp} : ∀ {v : List V} {d : List PyData}, DhAll H v d → DpAll K H v d
  | _, _, .nil => .nil
  | _, _, .cons h a => .cons h.dp a.dp
end
theorem DhAll.len {H : Hp} : ∀ {vs : List V} {ds : List PyData}, DhAll H vs ds → vs.length = ds.length
  | _, _, .nil => rfl
  | _, _, .cons _ a => by rw [List.length_cons, List.length_cons, a.len]
theorem DhAll.get {H : Hp} : ∀ {vs : List V} {ds : List PyData}, DhAll H vs ds → ∀ {i : Nat} {v : V}, vs[i]? = some v → ∃ d, ds[i]? = some d ∧ Dh H v d
  | _, _, .nil, i, v, h => by simp at h
  | _, _, .cons h a, 0, v, e => by
    simp only [List.getElem?_cons_zero, Option.some.injEq] at e
    subst e
    exact ⟨_, rfl, h⟩
  | _, _, .cons h a, i + 1, v, e => by
    simp only [List.getElem?_cons_succ] at e ⊢
    exact a.get e
theorem DhAll.at {H : Hp} {vs : List V} {ds : List PyData} (a : DhAll H vs ds) {i : Nat} (h : i < ds.length) : ∃ v d, vs[i]? = some v ∧ ds[i]? = some d ∧ Dh H v d := by
  have h1 : i < vs.length := by rw [a.len]; exact h
  obtain ⟨d, e, q⟩ := a.get (List.getElem?_eq_getElem h1)
  exact ⟨_, d, List.getElem?_eq_getElem h1, e, q⟩
theorem DhAll.app {H : Hp} : ∀ {vs ws : List V} {ds es : List PyData}, DhAll H vs ds → DhAll H ws es → DhAll H (vs ++ ws) (ds ++ es)
  | _, _, _, _, .nil, b => b
  | _, _, _, _, .cons h a, b => .cons h (a.app b)
theorem DhAll.take {H : Hp} : ∀ {vs : List V} {ds : List PyData}, DhAll H vs ds → ∀ n, DhAll H (vs.take n) (ds.take n)
  | _, _, .nil, n => by simp; exact .nil
  | _, _, .cons h a, 0 => .nil
  | _, _, .cons h a, n + 1 => .cons h (a.take n)
theorem DhAll.drop {H : Hp} : ∀ {vs : List V} {ds : List PyData}, DhAll H vs ds → ∀ n, DhAll H (vs.drop n) (ds.drop n)
  | _, _, .nil, n => by simp; exact .nil
  | _, _, .cons h a, 0 => .cons h a
  | _, _, .cons h a, n + 1 => a.drop n
/-- the type's name -/
def dTy : PyData → String
  | .none => "NoneType"
  | .bool _ => "bool"
  | .int _ => "int"
  | .str _ => "str"
  | .list _ => "list"
  | .tuple _ => "tuple"
  | .dict _ => "dict"
theorem Dh.ty {K : PySem.W.Frag} {H : Hp} {v : V} {d : PyData} (h : Dh H v d) : TyX K H v (.type (dTy d)) := by
  cases h with
  | non => exact .base .non
  | bl b => exact .base (.bl b)
  | int i => exact .base (.int i)
  | str x => exact .base (.str x)
  | lst h a => exact .base (.lst h)
  | tup h a => exact .base (.tup h)
def isS : PyData → Bool
  | .str _ => true
  | _ => false
def isT : PyData → Bool
  | .tuple _ => true
  | _ => false
def isI : PyData → Bool
  | .int _ => true
  | .bool _ => true
  | _ => false
def isB : PyData → Bool
  | .bool _ => true
  | _ => false
theorem Dh.nodict {H : Hp} {v : V} {d : PyData} (h : Dh H v d) : ∀ kvs, d ≠ .dict kvs := by
  cases h <;> intro kvs e <;> cases e
theorem kit_s {K : PySem.W.Frag} {d : PyData} : PySem.W.kitOne K (.type (dTy d)) (.type "str") = some (isS d) := by
  cases d with
  | none => exact kit_ty (show kitB "NoneType" "str" = some false by decide +kernel)
  | bool _ => exact kit_ty (show kitB "bool" "str" = some false by decide +kernel)
  | int _ => exact kit_ty (show kitB "int" "str" = some false by decide +kernel)
  | str _ => exact kit_ty (show kitB "str" "str" = some true by decide +kernel)
  | list _ => exact kit_ty (show kitB "list" "str" = some false by decide +kernel)
  | tuple _ => exact kit_ty (show kitB "tuple" "str" = some false by decide +kernel)
  | dict _ => exact kit_ty (show kitB "dict" "str" = some false by decide +kernel)
theorem kit_t {K : PySem.W.Frag} {d : PyData} : PySem.W.kitOne K (.type (dTy d)) (.type "tuple") = some (isT d) := by
  cases d with
  | none => exact kit_ty (show kitB "NoneType" "tuple" = some false by decide +kernel)
  | bool _ => exact kit_ty (show kitB "bool" "tuple" = some false by decide +kernel)
  | int _ => exact kit_ty (show kitB "int" "tuple" = some false by decide +kernel)
  | str _ => exact kit_ty (show kitB "str" "tuple" = some false by decide +kernel)
  | list _ => exact kit_ty (show kitB "list" "tuple" = some false by decide +kernel)
  | tuple _ => exact kit_ty (show kitB "tuple" "tuple" = some true by decide +kernel)
  | dict _ => exact kit_ty (show kitB "dict" "tuple" = some false by decide +kernel)
theorem kit_i {K : PySem.W.Frag} {d : PyData} : PySem.W.kitOne K (.type (dTy d)) (.type "int") = some (isI d) := by
  cases d with
  | none => exact kit_ty (show kitB "NoneType" "int" = some false by decide +kernel)
  | bool _ => exact kit_ty (show kitB "bool" "int" = some true by decide +kernel)
  | int _ => exact kit_ty (show kitB "int" "int" = some true by decide +kernel)
  | str _ => exact kit_ty (show kitB "str" "int" = some false by decide +kernel)
  | list _ => exact kit_ty (show kitB "list" "int" = some false by decide +kernel)
  | tuple _ => exact kit_ty (show kitB "tuple" "int" = some false by decide +kernel)
  | dict _ => exact kit_ty (show kitB "dict" "int" = some false by decide +kernel)
theorem kit_b {K : PySem.W.Frag} {d : PyData} : PySem.W.kitOne K (.type (dTy d)) (.type "bool") = some (isB d) := by
  cases d with
  | none => exact kit_ty (show kitB "NoneType" "bool" = some false by decide +kernel)
  | bool _ => exact kit_ty (show kitB "bool" "bool" = some true by decide +kernel)
  | int _ => exact kit_ty (show kitB "int" "bool" = some false by decide +kernel)
  | str _ => exact kit_ty (show kitB "str" "bool" = some false by decide +kernel)
  | list _ => exact kit_ty (show kitB "list" "bool" = some false by decide +kernel)
  | tuple _ => exact kit_ty (show kitB "tuple" "bool" = some false by decide +kernel)
  | dict _ => exact kit_ty (show kitB "dict" "bool" = some false by decide +kernel)
section
variable {X : Cx}
/-- isinstance, the knowledge named -/
theorem call_isiN {K : PySem.W.Frag} (hK : X.K = K := by rfl) : CallR X (.builtin "isinstance") (rIsi K) := by
  subst hK
  exact call_isi
/-- len, the knowledge named -/
theorem call_lenN {K : PySem.W.Frag} (hK : X.K = K := by rfl) : CallR X (.builtin "len") (fun xs H Q => ∃ x n, xs = [x] ∧ LenV K x H n ∧ Q (.int n) H) := by
  subst hK
  exact call_len
/-- a tuple as target, the knowledge named -/
theorem pg_tupK {K : PySem.W.Frag} {es : List Expr} {k : Nat} {t : TGs} {n : Nat} {pos : Pos} (hc : X.calm = true) (h : PGs X es t) (hn : (assignEach es X.env).length = n := by rfl)
    (hst : (assignEach es X.env).findIdx? (·.1) = none := by rfl) (hK : X.K = K := by rfl) : PG X (.Tuple es k pos) (gTup K n t) := by
  subst hK
  exact pg_tup hc h hn hst
end
/-- bounded data: at most n items in a row, at most k levels -/
def okD (n : Nat) : Nat → PyData → Bool
  | _, .none => true
  | _, .bool _ => true
  | _, .int i => decide (i.natAbs < 1000000)
  | _, .str s => decide (s.length ≤ 1000) && s.cps.toList.all fun c => decide (c < 128)
  | k + 1, .list ds => decide (ds.length ≤ n) && ds.all (okD n k)
  | k + 1, .tuple ds => decide (ds.length ≤ n) && ds.all (okD n k)
  | _, _ => false
theorem okD_mono {n m : Nat} (h : n ≤ m) : ∀ {k l : Nat} {d : PyData}, k ≤ l → okD n k d = true → okD m l d = true := by
  intro k
  induction k with
  | zero => intro l d _ e; cases d <;> cases l <;> simp_all [okD]
  | succ k ih =>
    intro l d hk e
    obtain ⟨l, rfl⟩ : ∃ j, l = j + 1 := ⟨l - 1, by omega⟩
    cases d with
    | list ds =>
      simp only [okD, Bool.and_eq_true, decide_eq_true_eq, List.all_eq_true] at e ⊢
      exact ⟨Nat.le_trans e.1 h, fun x hx => ih (by omega) (e.2 x hx)⟩
    | tuple ds =>
      simp only [okD, Bool.and_eq_true, decide_eq_true_eq, List.all_eq_true] at e ⊢
      exact ⟨Nat.le_trans e.1 h, fun x hx => ih (by omega) (e.2 x hx)⟩
    | _ => simp_all [okD]
theorem okD_shape {n : Nat} : ∀ {k : Nat} {d : PyData}, okD n k d = true → d.canLay0 = true ∧ d.depth ≤ k := by
  intro k
  induction k with
  | zero =>
    intro d e
    cases d with
    | str s =>
      simp only [okD, Bool.and_eq_true, decide_eq_true_eq, List.all_eq_true] at e
      refine ⟨?_, by simp [PyData.depth]⟩
      simp only [PyData.canLay0, PyData.strOk]
      rw [← Array.all_toList, List.all_eq_true]
      intro c hc
      have := e.2 c hc
      exact decide_eq_true (by omega)
    | _ => simp_all [okD, PyData.canLay0, PyData.depth]
  | succ k ih =>
    intro d e
    have key : ∀ ds : List PyData, (∀ x ∈ ds, okD n k x = true) → PyData.canLayAll0 ds = true ∧ PyData.depthAll ds ≤ k := by
      intro ds
      induction ds with
      | nil => intro _; exact ⟨rfl, Nat.zero_le _⟩
      | cons x r ihr =>
        intro h
        obtain ⟨a1, a2⟩ := ih (h x (List.mem_cons.mpr (.inl rfl)))
        obtain ⟨b1, b2⟩ := ihr fun y hy => h y (List.mem_cons.mpr (.inr hy))
        simp only [PyData.canLayAll0, PyData.depthAll, a1, b1, Bool.and_self, true_and]
        omega
    cases d with
    | str s =>
      simp only [okD, Bool.and_eq_true, decide_eq_true_eq, List.all_eq_true] at e
      refine ⟨?_, by simp [PyData.depth]⟩
      simp only [PyData.canLay0, PyData.strOk]
      rw [← Array.all_toList, List.all_eq_true]
      intro c hc
      have := e.2 c hc
      exact decide_eq_true (by omega)
    | list ds =>
      simp only [okD, Bool.and_eq_true, decide_eq_true_eq, List.all_eq_true] at e
      obtain ⟨a1, a2⟩ := key ds e.2
      exact ⟨by simpa [PyData.canLay0] using a1, by simp only [PyData.depth]; omega⟩
    | tuple ds =>
      simp only [okD, Bool.and_eq_true, decide_eq_true_eq, List.all_eq_true] at e
      obtain ⟨a1, a2⟩ := key ds e.2
      exact ⟨by simpa [PyData.canLay0] using a1, by simp only [PyData.depth]; omega⟩
    | _ => simp_all [okD, PyData.canLay0, PyData.depth]
theorem okD_shaped {n k : Nat} {d : PyData} (h : okD n k d = true) (hk : k ≤ 64) : SeqAt.shaped d = true := by
  obtain ⟨a, b⟩ := okD_shape h
  simp only [SeqAt.shaped, a, Bool.true_and, decide_eq_true_eq]
  omega
theorem eqv_refl {n : Nat} : ∀ {k : Nat} {d : PyData}, okD n k d = true → PyData.eqv d d = true := by
  intro k
  induction k with
  | zero =>
    intro d e
    cases d <;> simp_all [okD, PyData.eqv]
  | succ k ih =>
    intro d e
    have key : ∀ ds : List PyData, (∀ x ∈ ds, okD n k x = true) → PyData.eqvAll ds ds = true := by
      intro ds
      induction ds with
      | nil => intro _; rfl
      | cons x r ihr =>
        intro h
        show (PyData.eqv x x && PyData.eqvAll r r) = true
        rw [ih (h x (List.mem_cons.mpr (.inl rfl))), ihr fun y hy => h y (List.mem_cons.mpr (.inr hy))]
        rfl
    cases d with
    | list ds =>
      simp only [okD, Bool.and_eq_true, decide_eq_true_eq, List.all_eq_true] at e
      exact key ds e.2
    | tuple ds =>
      simp only [okD, Bool.and_eq_true, decide_eq_true_eq, List.all_eq_true] at e
      exact key ds e.2
    | _ => simp_all [okD, PyData.eqv]
end Sn

/-! ## Own errors whose __init__ says super().__init__(text) and keeps its arguments -/
namespace Sn
open PySem PySem.Spec PyProof.Rows L2
/-- super().__init__(m) -/
abbrev supSt (m : Str) (j : Nat) (p0 p1 p2 p3 p4 p5 : Pos) : Stmt := .Expr (.Call (.Attribute (.Call (.Name "super" p0) [] [] p1) "__init__" p2) [.Constant (.str m) j p3] [] p4) p5
/-- how its call is evaluated: the places tell nothing else -/
def SupEv (m : Str) (j : Nat) (p0 p1 p2 p3 p4 : Pos) : Prop := ∀ env : Env, eval (.Call (.Attribute (.Call (.Name "super" p0) [] [] p1) "__init__" p2) [.Constant (.str m) j p3] [] p4) env = (do
  let ov ← attributeBase (.Call (.Name "super" p0) [] [] p1) "__init__" env (eval (.Call (.Name "super" p0) [] [] p1) env)
  standAt p2.atName
  let (f, first) ← holding [ov] (getMethod ov "__init__" (do return (← importBound (.Call (.Name "super" p0) [] [] p1) env).getD true))
  callWith p4 f first (backTo p4 (starEach [.Constant (.str m) j p3] env)) [])
/-- self.f = g -/
abbrev keepSt (f g : Str) (q1 q2 q3 q4 : Pos) : Stmt := .Assign [.Attribute (.Name "self" q1) f q2] (.Name g q3) q4
/-- what the written part says of the __init__ at fI of the class at C -/
structure SupFn (P : Program) (K : PySem.W.Frag) (C fI : Addr) (st : Stmt) (qual : Str) : Prop where
  fn : ∃ (oc kV doc pm ct ccl cl : Value) (od an cdd cld : Option Addr) (cda cc : Addr) (osl ccs csl : Array (Option Value)) (vs : Array Value) (file : Str) (tf : Tok),
    K.lookup fI = some ⟨oc, od, .func (PySem.W.ksFn "__init__" qual (defArgs st) (defBody st) (defScope st) .none kV doc pm an (.ref cda) ct cc), osl⟩ ∧ PySem.W.codeIn K (.ref cda) qual = true ∧
    K.lookup cda = some ⟨ccl, cdd, .fields vs, ccs⟩ ∧ vs[2]? = some (.str file tf) ∧ ((P.main.file : Str) == file) = true ∧ K.lookup cc = some ⟨cl, cld, .cell (some (.ref C)), csl⟩
  top : (P.main.scope.names.lookup ("super" : Str)).isSome = false
  sup : PySem.W.ks_superIn K C C "__init__" = some (some (.builtin "ValueError.__init__"))
  self : PySem.W.mroIn K C (.ref C) = some true
  opq : PySem.W.nsIn K cStatics "thirdparty.any" = some none
  ve : PySem.W.subIn K (.ref C) (.type "ValueError") = some true
/-- what the text of such an __init__ says -/
structure SupTxt (st : Stmt) : Prop where
  ks : (defScope st).names.lookup ("super" : Str) = some .globalImplicit
  kc : (defScope st).names.lookup ("__class__" : Str) = some .free
  kf : (defScope st).names.lookup ("self" : Str) = some .local
  nc : ∀ x ∈ (defScope st).names, x.2 ≠ .cell
  hp : ∃ ar : Arg, ((defArgs st).posonlyargs ++ (defArgs st).args).head? = some ar ∧ ar.arg = "self"
  co : (defScope st).isCoroutine = false
  gen : (defScope st).isGenerator = false
  kind : (defScope st).kind = .function
section
variable {prog : Program} {w : World} {A : Around} {E : Value → Shared → Prop} {R : Result → Shared → Prop} {s : Shared} {K : PySem.W.Frag} {mg mb : Str → Option Value} {C fI : Addr} {st : Stmt} {qual : Str}
open PySem.W PySem.Calls PySem.HandSPX
theorem cls_of (O : OexC K C) : ∃ cd : ClassData, clsIn K C = some cd ∧ refsVE cd.mro = true ∧ cd.hasDict = true := by
  obtain ⟨nm, q, N, bs, bm, sn, sub, ab, col, dd, k0, k1, k2, k3, k5, hC, hbm⟩ := O.cls
  exact ⟨{ name := nm, bases := bs, mro := .ref C :: bm, ns := N, qualname := q, hasDict := true, slotNames := sn, subclasses := sub, abstract := ab, collection := col, hasDel := false }, by unfold clsIn; rw [hC] <;> rfl, hbm, rfl⟩
/-- super().__init__(m): the args are laid anew, nothing else is told -/
theorem sup_step {body : List Stmt} {m : Str} {j : Nat} {p0 p1 p2 p3 p4 p5 : Pos} {ml : Str → Option Value} {L x t0 cda cc : Addr} {oc kV doc pm ct ccl cl : Value} {od an cdd cld : Option Addr} {osl ccs csl : Array (Option Value)} {vs : Array Value} {file : Str} {tf : Tok} {Q : Flow → Shared → Prop}
    (hev : SupEv m j p0 p1 p2 p3 p4) (O : OexC K C) (S : SupFn prog K C fI st qual) (T : SupTxt st)
    (hf : K.lookup fI = some ⟨oc, od, .func (ksFn "__init__" qual (defArgs st) (defBody st) (defScope st) .none kV doc pm an (.ref cda) ct cc), osl⟩)
    (hcode : K.lookup cda = some ⟨ccl, cdd, .fields vs, ccs⟩) (hvs : vs[2]? = some (.str file tf)) (hfile : ((prog.main.file : Str) == file) = true) (hcell : K.lookup cc = some ⟨cl, cld, .cell (some (.ref C)), csl⟩)
    (X : K.In s.heap) (G : s.heap.Ns mainGlobals mg) (hmg : mg "super" = none) (Bn : s.heap.Ns builtinsNs mb) (hb : mb "super" = some (.type "super"))
    (hn : s.heap.Ns L ml) (hv : ml "self" = some (.ref x)) (hx : s.heap.get? x = some (excO C t0)) (hnx : K.lookup x = none)
    (h : ∀ h' tk t1, (∀ b o, b ≠ x → s.heap.get? b = some o → h'.get? b = some o) → h'.get? x = some (excO C t1) → Q .next { s with heap := h', toks := tk }) :
    PySem.wpAt (model prog w) A (.func body (ksEnv qual (defScope st) L fI (.ref cda) cc)) (exec (supSt m j p0 p1 p2 p3 p4 p5) (ksEnv qual (defScope st) L fI (.ref cda) cc)) Q E s := by
  obtain ⟨cd, hcd, hmro, hdct⟩ := cls_of O
  obtain ⟨ar, har, hself⟩ := T.hp
  obtain ⟨nm, q, N, bs, bm, sn, sub, ab, col, dd, k0, k1, k2, k3, k5, hC, hbm⟩ := O.cls
  obtain ⟨oD, hD1, hD2⟩ : ∃ oD, s.heap.get? C = some oD ∧ oD.data = .cls cd := by
    unfold clsIn at hcd
    split at hcd
    · rename_i c d cd' sl ho
      cases hcd
      exact ⟨_, X _ _ ho, rfl⟩
    · cases hcd
  have I : InstAt s.heap x (excO C t0) C none := ⟨hx, rfl, rfl, trivial⟩
  obtain ⟨hh, g, d, t, os⟩ := s
  refine ks_wpAt_Expr_any (ks_wpAt_MethodCall (he := hev _) ?_) (hi := by simp [interactive, T.kind])
  refine ks_wpAt_super_base (env := ksEnv qual (defScope st) L fI (.ref cda) cc) T.ks T.kc (by decide) rfl (X _ _ hf) rfl har rfl (X _ _ hcode) rfl hvs hfile S.top ?_
  refine ks_loadName_global T.kind T.ks (loadGlobal_builtin (env := ksEnv qual (defScope st) L fI (.ref cda) cc) G hmg Bn hb ⟨rfl, ?_⟩)
  refine wpAny_loadName_free T.kind T.kc rfl ⟨_, X _ _ hcell, rfl⟩ ?_
  rw [hself]
  refine wpAny_loadName_local T.kind T.kf hn hv ?_
  refine ks_wpAny_isType_cls hD1 hD2 ⟨rfl, ?_⟩
  refine ks_wpAny_call_super hD1 hD2 hx rfl (fun c e => by cases e) (looks_mroIn X S.self) (fun h1 e1 k1 => ?_)
  have X1 : K.In h1 := X.keeps k1
  have hm := S.sup
  unfold ks_superIn at hm
  rw [hcd] at hm
  have I1 : InstAt h1 x (excO C t0) C none := ⟨k1 _ _ hx, rfl, rfl, trivial⟩
  have hI : Looks (model prog w) h1 (isInstance (.ref x) (.type "ValueError")) true := I1.type.andThen (looks_subIn X1 S.ve)
  refine kxs_getMethod kxs_ValueError e1 (looks_opaque X1 S.opq) (l₀ := cd.mro) (fun A Q E s k q => wpAny_bind ((looks_clsIn X1 hcd) A _ E s k (wpAny_pure q))) rfl X1 hm hI (ks_ne X1 I1 hcd) (by decide) ?_
  have hz1 : (h1.push (kxs_mw "ValueError.__init__" x)).get? h1.objs.size = some (kxs_mw "ValueError.__init__" x) := Heap.get?_push_size _ rfl
  have hx1 : (h1.push (kxs_mw "ValueError.__init__" x)).get? x = some (excO C t0) := Heap.get?_push_of_some _ (k1 _ _ hx)
  have hC1 := Heap.get?_push_of_some (kxs_mw "ValueError.__init__" x) (X1 _ _ hC)
  have kk : ∀ b o, hh.get? b = some o → (h1.push (kxs_mw "ValueError.__init__" x)).get? b = some o := fun b o e => Heap.get?_push_of_some _ (k1 b o e)
  generalize h1.push (kxs_mw "ValueError.__init__" x) = h2 at hz1 hx1 hC1 kk
  refine kxs_callWith (i := "ValueError.__init__") (x := x) rfl ?_
  refine evalArgs_plain (spliced_cons (Calls.Constant_str (k := j) (pos := p3) (spliced_nil ⟨hz1, ?_⟩)))
  refine wpAny_call (codeAny_of_tree ?_)
  show wpAny _ A.in1 (callAny (.ref h1.objs.size) ⟨[Value.str m _], []⟩) _ _ _
  simp only [callAny]
  refine wpAny_bind (wpAny_load hz1 ?_)
  simp only [kxs_mw, show (Value.type "method-wrapper" == Value.type "method" || Value.type "method-wrapper" == Value.type "builtin_function_or_method" || Value.type "method-wrapper" == Value.type "method-wrapper") = true by decide, if_true]
  refine KFB.if_so (by decide) ?_
  refine wpAny_bind (check_bound_init F.excBase_ValueError.toExcCallFacts hC1 hx1 rfl ?_)
  refine wpAny_bind (wpAny_pure (wpAny_pure ?_))
  refine ⟨plainId_quiet F.excBase_ValueError.init.plain _, codeAny_builtin F.excBase_ValueError.initEntry ?_⟩
  refine exc_init_tree (cls := .ref C) (t0 := t0) (dv := none) (c2 := .none) (c3 := .none) (b4 := .bool false) hx1 (by rw [sizeLine_eq]; show 1 ≤ 16777216; decide) fun h3 k3 e3 t3 => ?_
  exact h h3 _ _ (fun b o hb e => k3 b o hb (kk b o e)) e3
theorem ldK {M : Model} {s : Shared} {name : Str} {scope : Scope} {L a cc : Addr} {cd : Value} {m : Str → Option Value} {x : Str} {pos : Pos} {v : Value} {Q : Value → Shared → Prop} {A : Around} {E : Value → Shared → Prop} (hn : s.heap.Ns L m) (hv : m x = some v) (h : Q v s)
    (hk : scope.kind = .function) (hl : scope.names.lookup x = some .local) (hd : (x == ("__debug__" : Str)) = false) : wpAny M A (eval (.Name x pos) (ksEnv name scope L a cd cc)) Q E s := wpAny_Name (wpAny_loadName_local hk hl hn hv h) hd
theorem kept_but {h h' : Heap} {x : Addr} (X : K.In h) (hx : K.lookup x = none) (k : ∀ b o, b ≠ x → h.get? b = some o → h'.get? b = some o) : K.In h' := fun a o e =>
  k a o (fun z => by rw [z, hx] at e; cases e) (X a o e)
/-- what such an __init__ leaves of a fresh error at x: its dict at dx -/
structure ErrEnd (h h' : Heap) (x C dx t1 : Addr) (ms : Str → Option Value) : Prop where
  keep : ∀ b o, b ≠ x → h.get? b = some o → h'.get? b = some o
  obj : h'.get? x = some { cls := .ref C, dict := some dx, data := .fields #[.ref t1, .none, .none, .none, .bool false, .none] }
  dbig : h.objs.size ≤ dx
  dne : dx ≠ x
  ns : h'.Ns1 dx ms
/-- the text: super().__init__(m), self.f = f -/
structure Txt1 (st : Stmt) (f : Str) : Prop where
  T : SupTxt st
  kf : (defScope st).names.lookup f = some .local
  df : (f == ("__debug__" : Str)) = false
  nf : f ≠ "self"
  bd : ∃ (m : Str) (j : Nat) (p0 p1 p2 p3 p4 p5 q1 q2 q3 q4 : Pos), defBody st = [supSt m j p0 p1 p2 p3 p4 p5, keepSt f f q1 q2 q3 q4] ∧ SupEv m j p0 p1 p2 p3 p4
theorem err_init1 {f : Str} (O : OexC K C) (S : SupFn prog K C fI st qual) (T : Txt1 st f) (hno : findIn K (.ref C) f = some none) {x t0 : Addr} {v : Value} {args : Args}
    (hb : ∀ (kV doc pm : Value) (an : Option Addr) (cdv ct : Value) (cc : Addr), BindsTo s (ksFn "__init__" qual (defArgs st) (defBody st) (defScope st) .none kV doc pm an cdv ct cc) args [("self", .ref x), (f, v)])
    (X : K.In s.heap) (G : s.heap.Ns mainGlobals mg) (hmg : mg "super" = none) (Bn : s.heap.Ns builtinsNs mb) (hbb : mb "super" = some (.type "super"))
    (hlim : s.heap.NoLimit) (hx : s.heap.get? x = some (excO C t0)) (hnx : K.lookup x = none) (hroom : A.depth < recursionLimit)
    (hq : ∀ h' tk dx t1, ErrEnd s.heap h' x C dx t1 (fun y => if y = f then some v else none) → R (.ok (.ret .none)) { s with heap := h', toks := tk }) :
    codeAny (model prog w) A (.call (.ref fI) args) R s := by
  obtain ⟨oc, kV, doc, pm, ct, ccl, cl, od, an, cdd, cld, cda, cc, osl, ccs, csl, vs, file, tf, hf, hcd, hcode, hvs, hfile, hcell⟩ := S.fn
  obtain ⟨m, j, p0, p1, p2, p3, p4, p5, q1, q2, q3, q4, ebody, hev⟩ := T.bd
  obtain ⟨cd, hcls, hmro, hdct⟩ := cls_of O
  refine ks_codeAny_call_defAt (fd := ksFn "__init__" qual (defArgs st) (defBody st) (defScope st) .none kV doc pm an (.ref cda) ct cc) (body := defBody st) (binds := [("self", .ref x), (f, v)]) hroom (X _ _ hf) rfl hlim (codeRec_of X hcd) rfl (hb kV doc pm an (.ref cda) ct cc)
    T.T.nc ?_ (fun h1 hn k1 => ?_) T.T.co T.T.gen T.T.kind
  · intro y hy
    rcases List.mem_cons.mp hy with rfl | hy
    · exact T.T.kf
    · rw [List.mem_singleton.mp hy]; exact T.kf
  show PySem.wpAt _ (A.deeper (ksEnv qual (defScope st) s.heap.objs.size fI (.ref cda) cc)) (.func (defBody st) (ksEnv qual (defScope st) s.heap.objs.size fI (.ref cda) cc)) (execs (defBody st) (ksEnv qual (defScope st) s.heap.objs.size fI (.ref cda) cc)) _ _ _
  generalize hA : A.deeper (ksEnv qual (defScope st) s.heap.objs.size fI (.ref cda) cc) = A1
  generalize hcode2 : Code.func (defBody st) (ksEnv qual (defScope st) s.heap.objs.size fI (.ref cda) cc) = code
  rw [ebody]
  have l1 : (([("self", .ref x), (f, v)] : List (Str × Value)).reverse.lookup ("self" : Str)) = some (Value.ref x) := by
    show List.lookup _ [(f, v), ("self", .ref x)] = _
    have e : (("self" : Str) == f) = false := by simpa using fun e => T.nf e.symm
    simp [List.lookup, e]
  have l2 : (([("self", .ref x), (f, v)] : List (Str × Value)).reverse.lookup f) = some v := by
    show List.lookup _ [(f, v), ("self", .ref x)] = _
    simp [List.lookup]
  refine ks_wpAt_execs_cons ?_
  rw [← hcode2]
  have X1 : K.In h1 := X.keeps k1
  refine sup_step (s := { s with heap := h1, toks := s.toks + 2 }) hev O S T.T hf hcode hvs hfile hcell X1 (G.keeps k1) hmg (Bn.keeps k1) hbb hn l1 (k1 _ _ hx) hnx fun h2 tk2 t1 k2 hx2 => ?_
  have X2 : K.In h2 := kept_but X1 hnx k2
  have hxL : s.heap.objs.size ≠ x := Nat.ne_of_gt (Heap.lt_size hx)
  have hn2 : h2.Ns s.heap.objs.size (fun y => ([("self", .ref x), (f, v)] : List (Str × Value)).reverse.lookup y) := by
    obtain ⟨o, es, ep, ho, r⟩ := hn
    exact ⟨o, es, ep, k2 _ _ hxL ho, r⟩
  refine wpAt_of_wpAny (wpAny_execs_cons (plainObj_wpAny_Assign_Attribute ?_))
  refine ldK hn2 l2 (ldK hn2 l1 ?_ T.T.kind T.T.kf (by decide)) T.T.kind T.kf T.df
  refine set_plain X2 (ox := excO C t1) (od := none) ⟨hx2, rfl, rfl, trivial⟩ O.sa ?_
  refine exc_osa X2 hx2 hcls hmro hdct hno (fun h3 tk3 dx k3 dn dne hx3 hn3 => ?_)
  refine wpAny_execs_nil (hq h3 tk3 dx t1 ⟨fun b o hb e => k3 b o hb (k2 b o hb (k1 b o e)), hx3, ?_, dne, hn3⟩)
  have z : s.heap.objs.size < h2.objs.size := hn2.lt
  exact Nat.le_of_lt (Nat.lt_of_lt_of_le z dn)
/-- the text: super().__init__(m), self.f = f, self.g = g -/
structure Txt2 (st : Stmt) (f g : Str) : Prop where
  T : SupTxt st
  kf : (defScope st).names.lookup f = some .local
  kg : (defScope st).names.lookup g = some .local
  df : (f == ("__debug__" : Str)) = false
  dg : (g == ("__debug__" : Str)) = false
  nf : f ≠ "self"
  ng : g ≠ "self"
  fg : f ≠ g
  bd : ∃ (m : Str) (j : Nat) (p0 p1 p2 p3 p4 p5 q1 q2 q3 q4 r1 r2 r3 r4 : Pos), defBody st = [supSt m j p0 p1 p2 p3 p4 p5, keepSt f f q1 q2 q3 q4, keepSt g g r1 r2 r3 r4] ∧ SupEv m j p0 p1 p2 p3 p4
theorem err_init2 {f g : Str} (O : OexC K C) (S : SupFn prog K C fI st qual) (T : Txt2 st f g) (hno : findIn K (.ref C) f = some none) (hno2 : findIn K (.ref C) g = some none) {x t0 : Addr} {v u : Value} {args : Args}
    (hb : ∀ (kV doc pm : Value) (an : Option Addr) (cdv ct : Value) (cc : Addr), BindsTo s (ksFn "__init__" qual (defArgs st) (defBody st) (defScope st) .none kV doc pm an cdv ct cc) args [("self", .ref x), (f, v), (g, u)])
    (X : K.In s.heap) (G : s.heap.Ns mainGlobals mg) (hmg : mg "super" = none) (Bn : s.heap.Ns builtinsNs mb) (hbb : mb "super" = some (.type "super"))
    (hlim : s.heap.NoLimit) (hx : s.heap.get? x = some (excO C t0)) (hnx : K.lookup x = none) (hroom : A.depth < recursionLimit)
    (hq : ∀ h' tk dx t1, ErrEnd s.heap h' x C dx t1 (fun y => if y = g then some u else if y = f then some v else none) → R (.ok (.ret .none)) { s with heap := h', toks := tk }) :
    codeAny (model prog w) A (.call (.ref fI) args) R s := by
  obtain ⟨oc, kV, doc, pm, ct, ccl, cl, od, an, cdd, cld, cda, cc, osl, ccs, csl, vs, file, tf, hf, hcd, hcode, hvs, hfile, hcell⟩ := S.fn
  obtain ⟨m, j, p0, p1, p2, p3, p4, p5, q1, q2, q3, q4, r1, r2, r3, r4, ebody, hev⟩ := T.bd
  obtain ⟨cd, hcls, hmro, hdct⟩ := cls_of O
  refine ks_codeAny_call_defAt (fd := ksFn "__init__" qual (defArgs st) (defBody st) (defScope st) .none kV doc pm an (.ref cda) ct cc) (body := defBody st) (binds := [("self", .ref x), (f, v), (g, u)]) hroom (X _ _ hf) rfl hlim (codeRec_of X hcd) rfl (hb kV doc pm an (.ref cda) ct cc)
    T.T.nc ?_ (fun h1 hn k1 => ?_) T.T.co T.T.gen T.T.kind
  · intro y hy
    rcases List.mem_cons.mp hy with rfl | hy
    · exact T.T.kf
    rcases List.mem_cons.mp hy with rfl | hy
    · exact T.kf
    · rw [List.mem_singleton.mp hy]; exact T.kg
  show PySem.wpAt _ (A.deeper (ksEnv qual (defScope st) s.heap.objs.size fI (.ref cda) cc)) (.func (defBody st) (ksEnv qual (defScope st) s.heap.objs.size fI (.ref cda) cc)) (execs (defBody st) (ksEnv qual (defScope st) s.heap.objs.size fI (.ref cda) cc)) _ _ _
  generalize hA : A.deeper (ksEnv qual (defScope st) s.heap.objs.size fI (.ref cda) cc) = A1
  generalize hcode2 : Code.func (defBody st) (ksEnv qual (defScope st) s.heap.objs.size fI (.ref cda) cc) = code
  rw [ebody]
  have l1 : (([("self", .ref x), (f, v), (g, u)] : List (Str × Value)).reverse.lookup ("self" : Str)) = some (Value.ref x) := by
    show List.lookup _ [(g, u), (f, v), ("self", .ref x)] = _
    have e : (("self" : Str) == f) = false := by simpa using fun e => T.nf e.symm
    have e' : (("self" : Str) == g) = false := by simpa using fun e => T.ng e.symm
    simp [List.lookup, e, e']
  have l2 : (([("self", .ref x), (f, v), (g, u)] : List (Str × Value)).reverse.lookup f) = some v := by
    show List.lookup _ [(g, u), (f, v), ("self", .ref x)] = _
    have e : (f == g) = false := by simpa using T.fg
    simp [List.lookup, e]
  have l3 : (([("self", .ref x), (f, v), (g, u)] : List (Str × Value)).reverse.lookup g) = some u := by
    show List.lookup _ [(g, u), (f, v), ("self", .ref x)] = _
    simp [List.lookup]
  refine ks_wpAt_execs_cons ?_
  rw [← hcode2]
  have X1 : K.In h1 := X.keeps k1
  refine sup_step (s := { s with heap := h1, toks := s.toks + 3 }) hev O S T.T hf hcode hvs hfile hcell X1 (G.keeps k1) hmg (Bn.keeps k1) hbb hn l1 (k1 _ _ hx) hnx fun h2 tk2 t1 k2 hx2 => ?_
  have X2 : K.In h2 := kept_but X1 hnx k2
  have hxL : s.heap.objs.size ≠ x := Nat.ne_of_gt (Heap.lt_size hx)
  have keepNs : ∀ {h h' : Heap}, h.Ns s.heap.objs.size (fun y => ([("self", .ref x), (f, v), (g, u)] : List (Str × Value)).reverse.lookup y) → (∀ b o, b ≠ x → h.get? b = some o → h'.get? b = some o) →
      h'.Ns s.heap.objs.size (fun y => ([("self", .ref x), (f, v), (g, u)] : List (Str × Value)).reverse.lookup y) := fun {h h'} hn k => by
    obtain ⟨o, es, ep, ho, r⟩ := hn
    exact ⟨o, es, ep, k _ _ hxL ho, r⟩
  have hn2 := keepNs hn k2
  refine wpAt_of_wpAny (wpAny_execs_cons (plainObj_wpAny_Assign_Attribute ?_))
  refine ldK hn2 l2 (ldK hn2 l1 ?_ T.T.kind T.T.kf (by decide)) T.T.kind T.kf T.df
  refine set_plain X2 (ox := excO C t1) (od := none) ⟨hx2, rfl, rfl, trivial⟩ O.sa ?_
  refine exc_osa X2 hx2 hcls hmro hdct hno (fun h3 tk3 dx k3 dn dne hx3 hn3 => ?_)
  have X3 : K.In h3 := kept_but X2 hnx k3
  have hn3' := keepNs hn2 k3
  refine wpAny_execs_cons (plainObj_wpAny_Assign_Attribute ?_)
  refine ldK hn3' l3 (ldK hn3' l1 ?_ T.T.kind T.T.kf (by decide)) T.T.kind T.kg T.dg
  have hw : Within (fun y => if y = f then some v else none) [f] := fun y hy => by
    by_cases e : y = f
    · rw [e]; simp
    · exact absurd (if_neg e) hy
  obtain ⟨oD, _, _, hoD, _, _⟩ := hn3.count hw
  refine set_plain X3 (ox := { cls := .ref C, dict := some dx, data := .fields #[.ref t1, .none, .none, .none, .bool false, .none] }) (od := some oD) ⟨hx3, rfl, rfl, hoD⟩ O.sa ?_
  refine PySem.OEX.osa_old X3 hx3 hn3 hw (by show 1 ≤ 1000; decide) hcls hmro hdct hno2 (fun h4 tk4 k4 hn4 => ?_)
  have z : s.heap.objs.size < h2.objs.size := hn2.lt
  have dbig : s.heap.objs.size ≤ dx := Nat.le_of_lt (Nat.lt_of_lt_of_le z dn)
  have olddx : ∀ {b : Addr} {o : Obj}, s.heap.get? b = some o → b ≠ dx := fun {b o} e => Nat.ne_of_lt (Nat.lt_of_lt_of_le (Heap.lt_size e) dbig)
  exact wpAny_execs_nil (hq h4 tk4 dx t1 ⟨fun b o hb e => k4 b o (olddx e) (k3 b o hb (k2 b o hb (k1 b o e))), k4 _ _ dne.symm hx3, dbig, dne, hn4⟩)
/-- a made error -/
structure ErrMade (h h' : Heap) (e C d : Addr) (ms : Str → Option Value) : Prop where
  keep : ∀ b o, h.get? b = some o → h'.get? b = some o
  new : h.objs.size ≤ e
  obj : ∃ oe vs, h'.get? e = some oe ∧ oe.cls = .ref C ∧ oe.dict = some d ∧ oe.data = .fields vs ∧ vs[1]? = some .none
  dbig : h.objs.size ≤ d
  dne : d ≠ e
  ns : h'.Ns1 d ms
/-- C(..): the record, then the own __init__ -/
theorem err_made {us : List Value} {ms : Str → Option Value} (O : OexC K C) (iC : findIn K (.ref C) "__init__" = some (some (.ref fI))) (tI : typeIn K (.ref fI) = some (.type "function")) (X : K.In s.heap) (hus : us.length ≤ sizeLine)
    (hi : ∀ (A1 : Around) (R1 : Result → Shared → Prop) (s1 : Shared) (x t0 : Addr), A1.depth = A.depth + 1 → K.In s1.heap → (∀ b o, s.heap.get? b = some o → s1.heap.get? b = some o) → s1.heap.get? x = some (excO C t0) → K.lookup x = none →
      (∀ h' tk dx t1, ErrEnd s1.heap h' x C dx t1 ms → R1 (.ok (.ret .none)) { s1 with heap := h', toks := tk }) → codeAny (model prog w) A1 (.call (.ref fI) ⟨.ref x :: us, []⟩) R1 s1)
    (hq : ∀ h' tk e d, ErrMade s.heap h' e C d ms → R (.ok (.ret (.ref e))) { s with heap := h', toks := tk }) :
    codeAny (model prog w) A (.call (.ref C) ⟨us, []⟩) R s := by
  obtain ⟨nm, q, N, bs, bm, sn, sub, ab, col, dd, k0, k1, k2, k3, k5, hC, hbm⟩ := O.cls
  obtain ⟨hp, g, dr, tk, os⟩ := s
  have k : ∀ b o, hp.get? b = some o → ((hp.push (kdv_tup us)).push (excO C hp.objs.size)).get? b = some o := fun b o e => Heap.get?_push_of_some _ (Heap.get?_push_of_some _ e)
  have hget : ((hp.push (kdv_tup us)).push (excO C hp.objs.size)).get? (hp.objs.size + 1) = some (excO C hp.objs.size) := by heap_get
  have hnx : K.lookup (hp.objs.size + 1) = none := by
    cases e : K.lookup (hp.objs.size + 1) with
    | none => rfl
    | some o =>
      have z : hp.get? (hp.objs.size + 1) = some o := X _ _ e
      exact absurd (Nat.lt_of_succ_lt (Heap.lt_size z)) (Nat.lt_irrefl _)
  refine call_own F.excBase_ValueError (fun X => refsVE_contains X bm hbm) (X _ _ hC) (looks_findIn X iC) (fun self => bind_fn X self tI) hus ?_
  refine hi _ _ ⟨(hp.push (kdv_tup us)).push (excO C hp.objs.size), g, dr, tk, os⟩ (hp.objs.size + 1) hp.objs.size rfl (X.keeps k) k hget hnx fun h' tk' dx t1 ⟨k', hx, dn, dne, hns⟩ => ?_
  have old : ∀ b o, hp.get? b = some o → h'.get? b = some o := fun b o e => k' b o (Nat.ne_of_lt (Nat.lt_succ_of_lt (Heap.lt_size e))) (k b o e)
  have z : hp.objs.size + 1 + 1 ≤ dx := by
    have q := dn
    rw [Heap.size_push, Heap.size_push] at q
    exact q
  exact ⟨rfl, hq h' tk' (hp.objs.size + 1) dx ⟨old, Nat.le_succ _, ⟨_, _, hx, rfl, rfl, rfl, rfl⟩, Nat.le_trans (Nat.le_trans (Nat.le_succ _) (Nat.le_succ _)) z, dne, hns⟩⟩
end
/-- what the texts and the written part say of an error class with one kept argument -/
structure Err1 (P : Program) (K : PySem.W.Frag) (mg : Str → Option Value) (x : Str) (C fI : Addr) (st : Stmt) (qual f : Str) : Prop where
  g : mg x = some (.ref C)
  O : OexC K C
  S : SupFn P K C fI st qual
  T : Txt1 st f
  no : PySem.W.findIn K (.ref C) f = some none
  iC : PySem.W.findIn K (.ref C) "__init__" = some (some (.ref fI))
  tI : PySem.W.typeIn K (.ref fI) = some (.type "function")
  b : ∀ (s : Shared) (kV doc pm : Value) (an : Option Addr) (cdv ct : Value) (cc : Addr) (a v : Value), BindsTo s (PySem.W.ksFn "__init__" qual (defArgs st) (defBody st) (defScope st) .none kV doc pm an cdv ct cc) ⟨[a, v], []⟩ [("self", a), (f, v)]
  su : mg "super" = none
structure Err2 (P : Program) (K : PySem.W.Frag) (mg : Str → Option Value) (x : Str) (C fI : Addr) (st : Stmt) (qual f f2 : Str) : Prop where
  g : mg x = some (.ref C)
  O : OexC K C
  S : SupFn P K C fI st qual
  T : Txt2 st f f2
  no : PySem.W.findIn K (.ref C) f = some none
  no2 : PySem.W.findIn K (.ref C) f2 = some none
  iC : PySem.W.findIn K (.ref C) "__init__" = some (some (.ref fI))
  tI : PySem.W.typeIn K (.ref fI) = some (.type "function")
  b : ∀ (s : Shared) (kV doc pm : Value) (an : Option Addr) (cdv ct : Value) (cc : Addr) (a v u : Value), BindsTo s (PySem.W.ksFn "__init__" qual (defArgs st) (defBody st) (defScope st) .none kV doc pm an cdv ct cc) ⟨[a, v, u], []⟩ [("self", a), (f, v), (f2, u)]
  su : mg "super" = none
section
variable {X : Cx} {x f f2 qual : Str} {C fI : Addr} {st : Stmt} {e : Expr} {es : List Expr} {ta : TA} {p pos : Pos} {k : Nat}
theorem relO_one {f : Str} {v : V} {v' : Value} (r : RelV v v') (y : Str) : RelO (List.lookup y [(f, v)]) (if y = f then some v' else none) := relO_put (fs := []) (mA := fun _ => none) r (fun _ => True.intro) y
theorem relO_two {f g : Str} {v u : V} {v' u' : Value} (r : RelV v v') (q : RelV u u') (y : Str) : RelO (List.lookup y [(g, u), (f, v)]) (if y = g then some u' else if y = f then some v' else none) := relO_put (fs := [(f, v)]) q (relO_one r) y
/-- the end of C(..): the error is in the air, its dict is tracked -/
theorem mk_err {pins : List (Addr × Obj)} {σ : L2.St} {H1 : Hp} {Q : XK} {hp h' : Heap} {g : Array GenState} {dr : Drawn} {tk tk' : Nat} {os : OsState} {er d : Addr} {ms : Str → Option Value} {fs : List (Str × V)} (O : OexC X.K C) (I1 : Inv X pins σ H1 ⟨hp, g, dr, tk, os⟩)
    (M : ErrMade hp h' er C d ms) (rel : ∀ y, RelO (List.lookup y fs) (ms y)) (q1 : ∀ d, H1 d = none → Q (.ref C) (some d) (upd H1 d (.xd fs))) : MkP X pins σ Q (.ref er) ⟨h', g, dr, tk', os⟩ := by
  obtain ⟨oe, fv, hoe, hc, hd, hdat, h1⟩ := M.obj
  have hns := M.ns
  obtain ⟨G', g1, g2⟩ := restrict h' fun b => decide (b ≠ er)
  have gk : ∀ b, b ≠ er → G'.get? b = h'.get? b := fun b hb => g1 b (decide_eq_true hb)
  have ge : G'.get? er = none := g2 er (by simp)
  have old : ∀ b o, hp.get? b = some o → G'.get? b = some o := fun b o q => (gk b (Nat.ne_of_lt (Nat.lt_of_lt_of_le (Heap.lt_size q) M.new))).trans (M.keep b o q)
  have ob : ObjOk X.prog X.w (upd H1 d (.xd fs)) G' d (.xd fs) := ⟨_, hns.at (fun o q => (gk d M.dne).trans q), rel⟩
  have J : Inv X pins σ (upd H1 d (.xd fs)) ⟨G', g, dr, tk', os⟩ := I1.laid (t' := tk') old M.dbig ob
  refine ⟨er, oe, fv, ⟨G', g, dr, tk', os⟩, _, .ref C, some d, rfl, J, fun b o q => ?_, ge, hoe, ⟨hc, hd⟩, hdat, h1, ?_, rfl, I1.bare, raises_own O.exC O.tyC, q1 d (I1.hok.fresh M.dbig)⟩
  · by_cases hb : b = er
    · have q' : G'.get? b = some o := q
      rw [hb, ge] at q'; cases q'
    · exact (gk b hb).symm.trans q
  · rw [upd_ne (Ne.symm M.dne)]
    exact I1.hok.fresh M.new
/-- C(e) -/
def tMkE1 (C : Addr) (f : Str) (ta : TA) : L2.St → Hp → XK → Prop := fun σ H Q => ta σ H fun vs H1 => ∃ v, vs = [v] ∧ ∀ d, H1 d = none → Q (.ref C) (some d) (upd H1 d (.xd [(f, v)]))
theorem pmk_err1 (R : Err1 X.prog X.K X.mg x C fI st qual f) (hr : Room k X.A) (hg : Gl X x) (ha : PA X (e :: es) ta) (hdb : (x == ("__debug__" : Str)) = false := by decide)
    (he : starEach (e :: es) X.env = (false, eval e X.env) :: starEach es X.env := by rfl) (hpl : (backTo pos (starEach es X.env)).any (·.1) = false := by rfl) :
    PMk X (.Call (.Name x p) (e :: es) [] pos) (tMkE1 C f ta) := by
  intro pins s σ H Q I h
  refine wpAny_Call_Name_kw (ld_glob I hg R.g ?_ hdb)
  refine PySem.W.callWith_K (h₀ := X.base) I.ok.mod.kin R.O.kC (thn (ha.run pos pins s σ H _ I h) ?_) he hpl
  rintro us s1 ⟨vs, H1, I1, r1, v, rfl, q1⟩
  refine ⟨I1.kIn, ?_⟩
  obtain ⟨u, rfl, rv⟩ := vals1 r1
  obtain ⟨mb, hbn, hbb⟩ := I1.ok.mod.blt
  have bk := I1.bk
  have hlim := I1.nolimit
  obtain ⟨hp, g, dr, tk, os⟩ := s1
  refine wpAny_call (err_made R.O R.iC R.tI I1.kIn (by rw [sizeLine_eq]; show 1 ≤ 16777216; decide) (ms := fun y => if y = f then some u else none) ?_ fun h' tk' er d M => ?_)
  · intro A1 R1 s1 y t0 hd hK hk hx hnx hq
    have kb : ∀ b o, X.base.get? b = some o → s1.heap.get? b = some o := fun b o q => hk b o (bk b o q)
    exact err_init1 R.O R.S R.T R.no (fun kV doc pm an cdv ct cc => R.b _ kV doc pm an cdv ct cc _ _) hK (I1.ok.mod.glob.keeps kb) R.su (hbn.keeps kb) ((hbb _ (by decide +kernel)).trans (by decide +kernel)) (hlim.keeps hk) hx hnx (by have := hr.dp; omega) hq
  · exact mk_err R.O I1 M (relO_one rv) q1
/-- C(e, e') -/
def tMkE2 (C : Addr) (f f2 : Str) (ta : TA) : L2.St → Hp → XK → Prop := fun σ H Q => ta σ H fun vs H1 => ∃ v u, vs = [v, u] ∧ ∀ d, H1 d = none → Q (.ref C) (some d) (upd H1 d (.xd [(f2, u), (f, v)]))
theorem pmk_err2 (R : Err2 X.prog X.K X.mg x C fI st qual f f2) (hr : Room k X.A) (hg : Gl X x) (ha : PA X (e :: es) ta) (hdb : (x == ("__debug__" : Str)) = false := by decide)
    (he : starEach (e :: es) X.env = (false, eval e X.env) :: starEach es X.env := by rfl) (hpl : (backTo pos (starEach es X.env)).any (·.1) = false := by rfl) :
    PMk X (.Call (.Name x p) (e :: es) [] pos) (tMkE2 C f f2 ta) := by
  intro pins s σ H Q I h
  refine wpAny_Call_Name_kw (ld_glob I hg R.g ?_ hdb)
  refine PySem.W.callWith_K (h₀ := X.base) I.ok.mod.kin R.O.kC (thn (ha.run pos pins s σ H _ I h) ?_) he hpl
  rintro us s1 ⟨vs, H1, I1, r1, v, u0, rfl, q1⟩
  refine ⟨I1.kIn, ?_⟩
  obtain ⟨v', u', rfl, rv, ru⟩ := vals2 r1
  obtain ⟨mb, hbn, hbb⟩ := I1.ok.mod.blt
  have bk := I1.bk
  have hlim := I1.nolimit
  obtain ⟨hp, g, dr, tk, os⟩ := s1
  refine wpAny_call (err_made R.O R.iC R.tI I1.kIn (by rw [sizeLine_eq]; show 2 ≤ 16777216; decide) (ms := fun y => if y = f2 then some u' else if y = f then some v' else none) ?_ fun h' tk' er d M => ?_)
  · intro A1 R1 s1 y t0 hd hK hk hx hnx hq
    have kb : ∀ b o, X.base.get? b = some o → s1.heap.get? b = some o := fun b o q => hk b o (bk b o q)
    exact err_init2 R.O R.S R.T R.no R.no2 (fun kV doc pm an cdv ct cc => R.b _ kV doc pm an cdv ct cc _ _ _) hK (I1.ok.mod.glob.keeps kb) R.su (hbn.keeps kb) ((hbb _ (by decide +kernel)).trans (by decide +kernel)) (hlim.keeps hk) hx hnx (by have := hr.dp; omega) hq
  · exact mk_err R.O I1 M (relO_two rv ru) q1
end
end Sn

/-! ## Errors caught and kept: try .. except C as n: m = n; isinstance and attributes of what is kept -/
namespace Sn
open PySem PySem.Spec PyProof.Rows L2
/-- a caught error that is kept: its class, its dict -/
def ExK (cls : Value) (d : Option Addr) (a : Addr) : HO := .ext fun h => ∃ (oe : Obj) (vs : Array Value), h.get? a = some oe ∧ Zc cls d oe ∧ oe.data = .fields vs
theorem exK_at {P : Program} {w : World} {H : Hp} {h : Heap} {a : Addr} {cls : Value} {d : Option Addr} (x : HOk P w H h) (e : H a = some (ExK cls d a)) : ∃ (oe : Obj) (vs : Array Value), h.get? a = some oe ∧ Zc cls d oe ∧ oe.data = .fields vs := by
  have z : ObjOk P w H h a (.ext fun h => ∃ (oe : Obj) (vs : Array Value), h.get? a = some oe ∧ Zc cls d oe ∧ oe.data = .fields vs) := x a _ e
  exact z.1
section
variable {X : Cx} {pins : List (Addr × Obj)} {σ : L2.St} {H : Hp} {s : Shared}
/-- what was pinned is tracked -/
theorem inv_track {a : Addr} {oe : Obj} {vs : Array Value} {cls : Value} {d : Option Addr} (I : Inv X ((a, oe) :: pins) σ H s) (z : Zc cls d oe) (hd : oe.data = .fields vs) (h0 : X.s_0.heap.get? a = none) (np : ∀ p ∈ X.pn ++ pins, p.1 ≠ a) :
    Inv X pins σ (upd H a (ExK cls d a)) s := by
  obtain ⟨ha, na, nL, nF, _⟩ := I.pin (a, oe) (List.mem_append_right _ (List.mem_cons.mpr (.inl rfl)))
  have nb : ∀ {b : Addr} {o : Obj}, X.s_0.heap.get? b = some o → b ≠ a := fun {b o} e q => by rw [q, h0] at e; cases e
  have nt : ∀ {b : Addr} {o : HO}, H b = some o → b ≠ a := fun {b o} e q => by rw [q, na] at e; cases e
  have new : ObjOk X.prog X.w (upd H a (ExK cls d a)) s.heap a (ExK cls d a) :=
    ⟨⟨oe, vs, ha, z, hd⟩, ⟨oe, ha⟩, fun _ _ ⟨o, v, q, r⟩ k => ⟨o, v, k o q, r⟩⟩
  refine ⟨I.ok, I.os, I.bare, ⟨I.base.keep, I.base.slot, ?_, I.base.there, ?_, ?_, ?_⟩, I.loc, I.cell, ?_, ?_, ?_, ?_, I.len⟩
  · intro b o e n hx
    rw [upd_ne (nb e)]
    exact I.base.free b o e n hx
  · intro b xs e
    have q := I.base.tups b xs e
    rw [upd_ne (nt q)]; exact q
  · intro b o xs e
    have q := I.base.frzs b o xs e
    rw [upd_ne (nt q)]; exact q
  · intro b ps e
    obtain ⟨m, q⟩ := I.base.tbls b ps e
    exact ⟨m, by rw [upd_ne (nt q)]; exact q⟩
  · rw [upd_ne nL.symm]; exact I.free
  · intro x c e
    obtain ⟨v, o, ho, hc⟩ := I.cell x c e
    have nc : c ≠ a := fun q => by
      rw [q, ha] at ho
      cases ho
      rw [hd] at hc
      cases hc
    rw [upd_ne nc]; exact I.freeC x c e
  · intro p hp
    have mem : p ∈ X.pn ++ ((a, oe) :: pins) := by
      rcases List.mem_append.mp hp with q | q
      · exact List.mem_append_left _ q
      · exact List.mem_append_right _ (List.mem_cons_of_mem _ q)
    obtain ⟨e1, e2, e3, e4, e5⟩ := I.pin p mem
    exact ⟨e1, by rw [upd_ne (np p hp)]; exact e2, e3, e4, e5⟩
  · intro b u e
    by_cases hb : b = a
    · subst hb
      rw [upd_same] at e
      cases e
      exact new
    · rw [upd_ne hb] at e
      exact (I.hok b u e).stay (fun _ _ _ q => q) (fun c q => by rw [upd_ne (nt q)]; exact q) fun c xs q => by rw [upd_ne (nt q)]; exact q
/-- how the suite ends: next, the error is tracked -/
abbrev kpEnds (D : Ends) (i : Nat) (a : Addr) (cls : Value) (d : Option Addr) : Ends :=
  { nx := fun σ' H' => H' a = none → D.nx (σ'.set i none) (upd H' a (ExK cls d a)), rt := fun _ _ => False, bk := fun _ _ => False, ct := fun _ _ => False }
/-- what the clause wishes of an error of the body: it is of the class, and the suite runs -/
def wKp (K : PySem.W.Frag) (c : Value) (i : Nat) (ts : Addr → Value → Option Addr → TS) (D : Ends) : WX := fun cls d σ H =>
  PySem.W.exmOne K cls c = some true ∧ ∀ a, H a = none → ts a cls d (kpEnds D i a cls d) (σ.set i (some (.ref a))) H
/-- try: body / except x as n: suite, where the suite keeps the error -/
theorem ps_try_keep {x n : Str} {c : Value} {i : Nat} {body suite : List Stmt} {b₀ : Stmt} {np pos pos' : Pos} {tb : WX → TS} {ts : Addr → Value → Option Addr → TS}
    (hs : X.stack = X.env :: X.outer) (hf : X.env.frame = some X.env.locals) (hex : X.ex = []) (hN : X.N.Nodup) (hi : X.N[i]? = some n) (hln : X.env.kindOf n = some .local) (hc : L2.Names X x c)
    (hb : ∀ (W : WX) (pn : List (Addr × Obj)) (xe : Value → Shared → Prop), Takes (X.tr pn xe) W → PassesOwn (model X.prog X.w) X.A X.env xe → PSs (X.tr pn xe) body (tb W))
    (hsu : ∀ (a : Addr) (oe : Obj) (cls : Value) (d : Option Addr) (pn : List (Addr × Obj)), Zc cls d oe → (∃ vs, oe.data = .fields vs) → PSs (X.suite a ((a, oe) :: pn)) (b₀ :: suite) (ts a cls d)) :
    PS X (.Try body [.ExceptHandler (some (.Name x np)) (some n) (b₀ :: suite) pos'] [] [] pos) (fun D σ H => tb (wKp X.K c i ts D) D σ H) := by
  refine ⟨fun pins s σ H D I h => ?_⟩
  have okX := I.ok
  have frm : X.A.frames = some (X.env :: X.outer) := okX.frames.trans (by rw [hs])
  refine wpAny_Try_except ?_
  have run := (hb (wKp X.K c i ts D) (X.pn ++ pins) (fun e s1 => wpAny (model X.prog X.w) X.A (noteFrame e X.env) (fun _ s2 => wpAny (model X.prog X.w) X.A (setFlight e none)
    (fun _ s3 => wpAny (model X.prog X.w) X.A (handleBy e X.env [.ExceptHandler (some (.Name x np)) (some n) (b₀ :: suite) pos']) (SP X pins D) X.xe s3) X.xe s2) X.xe s1) ?caught PassesOwn.looking).run [] s σ H D (I.toTry _) h
  case caught =>
    rintro u s1 ⟨a, B, sI, pins', σ1, H1, cls, d, rfl, J0, nb, up, sky, na, os, ag, hyes, hsuite⟩
    have J : Inv X pins σ1 H1 sI := J0.ofTry okX
    rw [hs] at sky
    refine Sky.land Zc.steady frm hf sky fun h2 fl2 up2 => ?_
    obtain ⟨o2, v2, g2, z2, d2⟩ := fl2.there
    have nst : a ∉ frs (X.env :: X.outer) := fun hm => by
      obtain ⟨_, o, g, no⟩ := fl2.2.2.1.mem hm
      rw [g2] at g
      cases g
      exact no _ d2
    have nL : a ≠ X.env.locals := fun q => nst (List.mem_filterMap.mpr ⟨X.env, List.mem_cons.mpr (.inl rfl), by rw [hf, q]⟩)
    have nF : a ∉ X.fs := fun hm => by
      obtain ⟨e, he, q⟩ := List.mem_filterMap.mp hm
      exact nst (List.mem_filterMap.mpr ⟨e, List.mem_cons_of_mem _ he, q⟩)
    have nB : B.get? a = none := fl2.2.1
    -- nothing of the entry stands at a, nor a pin
    have onB : ∀ {b : Addr} {o : Obj}, sI.heap.get? b = some o → b ∉ frs X.stack → b ≠ a := fun {b o} e hb q => by
      have := nb b o e hb
      rw [q, nB] at this; cases this
    have fr0 : X.s_0.heap.get? a = none := by
      cases e : X.s_0.heap.get? a with
      | none => rfl
      | some o =>
        obtain ⟨o', e'⟩ := J.base.there a o e (by rw [hex]; simp)
        exact absurd rfl (onB e' (by rw [hs]; exact nst))
    have npn : ∀ p ∈ X.pn ++ pins, p.1 ≠ a := fun p hp => by
      obtain ⟨e1, _, e3, e4, _⟩ := J.pin p hp
      refine onB e1 fun hm => ?_
      rw [hs] at hm
      obtain ⟨v, hv, q⟩ := List.mem_filterMap.mp hm
      rcases List.mem_cons.mp hv with rfl | hv
      · rw [hf] at q
        exact e3 (Option.some.inj q).symm
      · exact e4 (List.mem_filterMap.mpr ⟨v, hv, q⟩)
    have J2 : Inv X pins σ1 H1 { s1 with heap := h2 } := J.landed nb fl2.1 (up.trans up2) os ag
    have S2 := J2.suite g2 d2 na nL nF
    refine wpAny_handleBy_cons (codeAny_handlers_test ?_) (by intro q; cases q)
    have ty : PySem.W.Looks (model X.prog X.w) h2 (typeOf (.ref a)) cls := fun A' Q' E' s' k q => wpAny_typeOf_ref (k _ _ g2) (by rw [z2.1]; exact q)
    have hit := PySem.W.exm_one (M := model X.prog X.w) J2.kIn ty hyes
    have name : ∀ {Q : Value → Shared → Prop} {E : Value → Shared → Prop}, Q c { s1 with heap := h2 } → wpAny (model X.prog X.w) (X.A.mark (some (.ref a))) (eval (.Name x np) X.env) Q E { s1 with heap := h2 } := by
      intro Q E q
      obtain ⟨hg, hdb, hm | ⟨hm, hv, hnn⟩⟩ := hc
      · exact ld_glob (X := X.suite a ((a, o2) :: (X.pn ++ pins))) S2 hg hm q hdb
      · exact ld_blt (X := X.suite a ((a, o2) :: (X.pn ++ pins))) S2 hg hm hv q hnn hdb
    refine name (hit.here (codeAny_handlers_suite_as ?_))
    refine HandSPX.lands_againZ fl2 fun h3 fl3 up3 => ?_
    obtain ⟨o3, v3, g3, z3, d3⟩ := fl3.there
    have J3 : Inv X pins σ1 H1 { s1 with heap := h3 } := J.landed nb fl3.1 ((up.trans up2).trans up3) os ag
    have S3 := J3.suite g3 d3 na nL nF
    refine store_ok (X := X.suite a ((a, o3) :: (X.pn ++ pins))) (v := .ref a) S3 hN hi (.inl hln) rfl (fun s4 S4 => ?_) (.inr hln)
    refine wpAny_mono ((hsu a o3 cls d (X.pn ++ pins) z3 ⟨_, d3⟩).run [] s4 _ H1 _ S4 (hsuite a na)) (fun f s5 q5 => ?_) fun _ _ q => False.elim q
    match f, q5 with
    | .next, ⟨σ5, H5, S5, q5⟩ =>
      have J5 : Inv X ((a, o3) :: pins) σ5 H5 s5 := by
        refine ⟨okX, S5.os, S5.bare, S5.base, S5.loc, S5.cell, S5.free, S5.freeC, fun p hp => S5.pin p ?_, S5.hok, S5.len⟩
        rw [List.append_nil]
        rcases List.mem_append.mp hp with q | q
        · exact List.mem_cons_of_mem _ (List.mem_append_left _ q)
        · rcases List.mem_cons.mp q with q | q
          · rw [q]; exact List.mem_cons.mpr (.inl rfl)
          · exact List.mem_cons_of_mem _ (List.mem_append_right _ q)
      refine gone_ok J5 hN hi hln fun s6 J6 => ?_
      have nH : H5 a = none := (J6.pin (a, o3) (List.mem_append_right _ (List.mem_cons.mpr (.inl rfl)))).2.1
      exact ⟨_, _, inv_track J6 z3 d3 fr0 npn, q5 nH⟩
    | .brk, ⟨_, _, _, q5⟩ => exact q5.elim
    | .cont, ⟨_, _, _, q5⟩ => exact q5.elim
    | .ret _, ⟨_, _, _, _, _, q5⟩ => exact q5.elim
  refine wpAny_mono run (fun f s1 q => ?_) fun _ _ q => q
  match f, q with
  | .next, ⟨σ1, H1, J1, q⟩ => exact wpAny_execs_nil ⟨σ1, H1, J1.ofTry okX, q⟩
  | .brk, ⟨σ1, H1, J1, q⟩ => exact ⟨σ1, H1, J1.ofTry okX, q⟩
  | .cont, ⟨σ1, H1, J1, q⟩ => exact ⟨σ1, H1, J1.ofTry okX, q⟩
  | .ret u, ⟨v, σ1, H1, J1, r, q⟩ => exact ⟨v, σ1, H1, J1.ofTry okX, r, q⟩
/-- the dict of a kept error stands -/
def XdOk (H : Hp) (d : Option Addr) : Prop := d = none ∨ ∃ dd fs, d = some dd ∧ H dd = some (.xd fs)
theorem exK_inst {a D : Addr} {d : Option Addr} (I : Inv X pins σ H s) (e : H a = some (ExK (.ref D) d a)) (hd : XdOk H d) : ∃ ox od, PySem.W.InstAt s.heap a ox D od := by
  obtain ⟨oe, vs, g, ⟨z1, z2⟩, dt⟩ := exK_at I.hok e
  have nc : PySem.W.notCls oe = true := by unfold PySem.W.notCls; rw [dt]
  rcases hd with rfl | ⟨dd, fs, rfl, hx⟩
  · exact ⟨oe, none, g, z1, nc, by rw [z2]; trivial⟩
  · obtain ⟨mA, ⟨od, es, ep, ho, _⟩, _⟩ := (show ObjOk X.prog X.w H s.heap dd (.xd fs) from I.hok dd _ hx)
    exact ⟨oe, some od, g, z1, nc, by rw [z2]; exact ho⟩
/-- isinstance(e, c), e a kept error -/
def rIsX (K : PySem.W.Frag) : List V → Hp → VK → Prop := fun xs H Q => ∃ (a D : Addr) (d : Option Addr) (c : V) (cv : Value) (b : Bool), xs = [.ref a, c] ∧ H a = some (ExK (.ref D) d a) ∧ XdOk H d ∧ ExcC K D ∧ ClsV c cv ∧
  PySem.W.kitOne K (.ref D) cv = some b ∧ Q (.bl b) H
theorem call_isX : CallR X (.builtin "isinstance") (rIsX X.K) := by
  intro pins s σ H xs us Q I r h
  obtain ⟨a, D, d, c, cv, b, rfl, ha, hd, C, kc, e, q⟩ := h
  obtain ⟨u1, u2, rfl, r1, r2⟩ := vals2 r
  cases r1
  have ec := kc.eq r2
  subst ec
  obtain ⟨ox, od, J⟩ := exK_inst I ha hd
  have hcl : (PySem.W.clsIn X.K D).isSome = true := by
    obtain ⟨cd, hc, _⟩ := PySem.W.any_some C.hd
    rw [hc]; rfl
  exact PySem.W.kia_one (PySem.W.kitx_exc hcl C.hg C.hk C.hs C.ha C.hn C.ht C.hm) I.kIn J e (fun z => nomatch z) fun tk => ⟨.bl b, H, I.tok tk, rfl, q⟩
/-- e.f, e a kept error -/
def tXk (K : PySem.W.Frag) (f : Str) (te : TE) : TE := fun σ H Q => te σ H fun x H1 => ∃ (a C dd : Addr) (fs : List (Str × V)) (v : V), x = .ref a ∧ H1 a = some (ExK (.ref C) (some dd) a) ∧ H1 dd = some (.xd fs) ∧ fs.lookup f = some v ∧
  XfC K C ∧ PySem.W.findIn K (.ref C) f = some none ∧ Q v H1
theorem pe_xk {e : Expr} {te : TE} {pos : Pos} {f : Str} (he : PE X e te) (hb : attributeBase e f X.env (eval e X.env) = eval e X.env := by rfl) : PE X (.Attribute e f pos) (tXk X.K f te) := by
  refine ⟨fun pins s σ H Q I h => attr_of hb (thn (he.run pins s σ H _ I h) ?_)⟩
  rintro u s1 ⟨y, H1, I1, ry, a, C, dd, fs, v, rfl, ha, hx, l, T, hno, q⟩
  cases ry
  obtain ⟨oe, vs, g, ⟨z1, z2⟩, dt⟩ := exK_at I1.hok ha
  obtain ⟨mA, hns, rel⟩ := (show ObjOk X.prog X.w H1 s1.heap dd (.xd fs) from I1.hok dd _ hx)
  obtain ⟨od, ho, hl⟩ := lookIn_ns hns
  obtain ⟨u, hu, ru⟩ := RelO.some_of (v := v) (o := mA f) (by rw [← l]; exact rel f)
  have J : PySem.W.InstAt s1.heap a oe C (some od) := ⟨g, z1, by unfold PySem.W.notCls; rw [dt], by rw [z2]; exact ho⟩
  exact HandSPX.exc_get I1.kIn J T.ga T.gg T.exC (PySem.W.findObj_own T.hdC hno rfl (by rw [hl, hu])) (handed_of ru) ⟨v, H1, I1.tok _, ru, q⟩
end
end Sn

namespace Sn
open PySem PySem.Spec PyProof.Rows L2
def top (i : Nat) : Stmt := PySem.Challenge.pw_sparenames_k42_routes_refused.main.body.getD i (.Pass ⟨0, 0, 0, 0⟩)
abbrev s_is_string : Stmt := top 5
abbrev s_is_tuple_of_strings : Stmt := top 7
abbrev s_is_choice : Stmt := top 8
abbrev s_are_choices : Stmt := top 9
abbrev s_is_row : Stmt := top 10
abbrev s_are_parts : Stmt := top 11
abbrev s_Route_init : Stmt := inClass (top 12) 0
abbrev s_Route_counted : Stmt := inClass (top 12) 1
abbrev s_Route_answers : Stmt := inClass (top 12) 2
abbrev s_law_begun : Stmt := top 14
abbrev s_law_mixed : Stmt := top 15
abbrev s_law_take : Stmt := top 16
abbrev s_law_pick : Stmt := top 17
abbrev s_law_odd : Stmt := top 18
abbrev s_law_choices : Stmt := top 19
abbrev s_law_is_choice : Stmt := top 20
abbrev s_law_are_strings : Stmt := top 21
abbrev s_law_are_choices : Stmt := top 22
abbrev s_law_is_row : Stmt := top 23
abbrev s_law_are_parts : Stmt := top 24
abbrev s_law_spoilt_row : Stmt := top 25
abbrev s_law_spoilt : Stmt := top 26
abbrev s_law : Stmt := top 27
abbrev n_is_string : List Str := ["value", "most", "sign"]
theorem sc_is_string : FnScope n_is_string ["value", "most"] (defScope s_is_string) := ⟨rfl, rfl, rfl, by decide +kernel, rfl, by decide +kernel, by decide +kernel⟩
abbrev n_is_tuple_of_strings : List Str := ["value", "part"]
theorem sc_is_tuple_of_strings : FnScope n_is_tuple_of_strings ["value"] (defScope s_is_tuple_of_strings) := ⟨rfl, rfl, rfl, by decide +kernel, rfl, by decide +kernel, by decide +kernel⟩
abbrev n_is_choice : List Str := ["value", "most"]
theorem sc_is_choice : FnScope n_is_choice ["value", "most"] (defScope s_is_choice) := ⟨rfl, rfl, rfl, by decide +kernel, rfl, by decide +kernel, by decide +kernel⟩
abbrev n_are_choices : List Str := ["value", "most", "choice"]
theorem sc_are_choices : FnScope n_are_choices ["value", "most"] (defScope s_are_choices) := ⟨rfl, rfl, rfl, by decide +kernel, rfl, by decide +kernel, by decide +kernel⟩
abbrev n_is_row : List Str := ["value", "k"]
theorem sc_is_row : FnScope n_is_row ["value", "k"] (defScope s_is_row) := ⟨rfl, rfl, rfl, by decide +kernel, rfl, by decide +kernel, by decide +kernel⟩
abbrev n_are_parts : List Str := ["start", "arguments", "rows", "legs", "leg", "k", "row"]
theorem sc_are_parts : FnScope n_are_parts ["start", "arguments", "rows", "legs"] (defScope s_are_parts) := ⟨rfl, rfl, rfl, by decide +kernel, rfl, by decide +kernel, by decide +kernel⟩
abbrev n_Route_init : List Str := ["self", "start", "arguments", "rows", "legs", "row", "leg"]
theorem sc_Route_init : FnScope n_Route_init ["self", "start", "arguments", "rows", "legs"] (defScope s_Route_init) := ⟨rfl, rfl, rfl, by decide +kernel, rfl, by decide +kernel, by decide +kernel⟩
abbrev n_Route_counted : List Str := ["self", "choices", "choice"]
theorem sc_Route_counted : FnScope n_Route_counted ["self", "choices"] (defScope s_Route_counted) := ⟨rfl, rfl, rfl, by decide +kernel, rfl, by decide +kernel, by decide +kernel⟩
abbrev n_law_begun : List Str := ["_law_script", "_law_great", "_law_cell"]
theorem sc_law_begun : FnScope n_law_begun ["_law_script"] (defScope s_law_begun) := ⟨rfl, rfl, rfl, by decide +kernel, rfl, by decide +kernel, by decide +kernel⟩
abbrev n_law_mixed : List Str := ["_law_state", "_law_found", "_law_prime", "_law_blend", "_law_cell"]
theorem sc_law_mixed : FnScope n_law_mixed ["_law_state"] (defScope s_law_mixed) := ⟨rfl, rfl, rfl, by decide +kernel, rfl, by decide +kernel, by decide +kernel⟩
abbrev n_law_take : List Str := ["_law_state", "_law_size", "_law_found"]
theorem sc_law_take : FnScope n_law_take ["_law_state", "_law_size"] (defScope s_law_take) := ⟨rfl, rfl, rfl, by decide +kernel, rfl, by decide +kernel, by decide +kernel⟩
abbrev n_law_pick : List Str := ["_law_state", "_law_some"]
theorem sc_law_pick : FnScope n_law_pick ["_law_state", "_law_some"] (defScope s_law_pick) := ⟨rfl, rfl, rfl, by decide +kernel, rfl, by decide +kernel, by decide +kernel⟩
abbrev n_law_odd : List Str := ["_law_state", "_law_k"]
theorem sc_law_odd : FnScope n_law_odd ["_law_state", "_law_k"] (defScope s_law_odd) := ⟨rfl, rfl, rfl, by decide +kernel, rfl, by decide +kernel, by decide +kernel⟩
abbrev n_law_choices : List Str := ["_law_state", "_law_k", "_law_found", "_law_turn"]
theorem sc_law_choices : FnScope n_law_choices ["_law_state", "_law_k"] (defScope s_law_choices) := ⟨rfl, rfl, rfl, by decide +kernel, rfl, by decide +kernel, by decide +kernel⟩
abbrev n_law_is_choice : List Str := ["_law_value", "_law_k"]
theorem sc_law_is_choice : FnScope n_law_is_choice ["_law_value", "_law_k"] (defScope s_law_is_choice) := ⟨rfl, rfl, rfl, by decide +kernel, rfl, by decide +kernel, by decide +kernel⟩
abbrev n_law_are_strings : List Str := ["_law_value", "_law_one"]
theorem sc_law_are_strings : FnScope n_law_are_strings ["_law_value"] (defScope s_law_are_strings) := ⟨rfl, rfl, rfl, by decide +kernel, rfl, by decide +kernel, by decide +kernel⟩
abbrev n_law_are_choices : List Str := ["_law_value", "_law_k", "_law_one"]
theorem sc_law_are_choices : FnScope n_law_are_choices ["_law_value", "_law_k"] (defScope s_law_are_choices) := ⟨rfl, rfl, rfl, by decide +kernel, rfl, by decide +kernel, by decide +kernel⟩
abbrev n_law_is_row : List Str := ["_law_value", "_law_k"]
theorem sc_law_is_row : FnScope n_law_is_row ["_law_value", "_law_k"] (defScope s_law_is_row) := ⟨rfl, rfl, rfl, by decide +kernel, rfl, by decide +kernel, by decide +kernel⟩
abbrev n_law_are_parts : List Str := ["_law_parts", "_law_start", "_law_some", "_law_rows", "_law_legs", "_law_one", "_law_k"]
theorem sc_law_are_parts : FnScope n_law_are_parts ["_law_parts"] (defScope s_law_are_parts) := ⟨rfl, rfl, rfl, by decide +kernel, rfl, by decide +kernel, by decide +kernel⟩
abbrev n_law_spoilt_row : List Str := ["_law_state", "_law_row", "_law_k", "_law_way", "_law_at"]
theorem sc_law_spoilt_row : FnScope n_law_spoilt_row ["_law_state", "_law_row", "_law_k"] (defScope s_law_spoilt_row) := ⟨rfl, rfl, rfl, by decide +kernel, rfl, by decide +kernel, by decide +kernel⟩
abbrev n_law_spoilt : List Str := ["_law_state", "_law_parts", "_law_start", "_law_some", "_law_rows", "_law_legs", "_law_way", "_law_more", "_law_at", "_law_many"]
theorem sc_law_spoilt : FnScope n_law_spoilt ["_law_state", "_law_parts"] (defScope s_law_spoilt) := ⟨rfl, rfl, rfl, by decide +kernel, rfl, by decide +kernel, by decide +kernel⟩
abbrev n_law : List Str := ["_law_script", "_law_state", "_law_spoils", "_law_many", "_law_rows", "_law_turn", "_law_legs", "_law_parts", "_law_error", "_law_found", "e", "_law_k"]
theorem sc_law : FnScope n_law ["_law_script"] (defScope s_law) := ⟨rfl, rfl, rfl, by decide +kernel, rfl, by decide +kernel, by decide +kernel⟩
def mainFile : Str := PySem.Challenge.pw_sparenames_k42_routes_refused.main.file
/-- what an error's super() asks of the program -/
def PrOk (P : Program) : Prop := P.main.file = mainFile ∧ (P.main.scope.names.lookup ("super" : Str)).isSome = false
/-- what the top has left: the defs, the constants, the names that are still built in -/
structure Txt (K : PySem.W.Frag) (mg : Str → Option Value) where
  f_is_string : Addr
  fd_is_string : FuncData
  F_is_string : Fun K "is_string" "is_string" s_is_string f_is_string fd_is_string
  g_is_string : mg "is_string" = some (.ref f_is_string)
  b_is_string : Binds K fd_is_string ["value", "most"] []
  f_is_tuple_of_strings : Addr
  fd_is_tuple_of_strings : FuncData
  F_is_tuple_of_strings : Fun K "is_tuple_of_strings" "is_tuple_of_strings" s_is_tuple_of_strings f_is_tuple_of_strings fd_is_tuple_of_strings
  g_is_tuple_of_strings : mg "is_tuple_of_strings" = some (.ref f_is_tuple_of_strings)
  b_is_tuple_of_strings : Binds K fd_is_tuple_of_strings ["value"] []
  f_is_choice : Addr
  fd_is_choice : FuncData
  F_is_choice : Fun K "is_choice" "is_choice" s_is_choice f_is_choice fd_is_choice
  g_is_choice : mg "is_choice" = some (.ref f_is_choice)
  b_is_choice : Binds K fd_is_choice ["value", "most"] []
  f_are_choices : Addr
  fd_are_choices : FuncData
  F_are_choices : Fun K "are_choices" "are_choices" s_are_choices f_are_choices fd_are_choices
  g_are_choices : mg "are_choices" = some (.ref f_are_choices)
  b_are_choices : Binds K fd_are_choices ["value", "most"] []
  f_is_row : Addr
  fd_is_row : FuncData
  F_is_row : Fun K "is_row" "is_row" s_is_row f_is_row fd_is_row
  g_is_row : mg "is_row" = some (.ref f_is_row)
  b_is_row : Binds K fd_is_row ["value", "k"] []
  f_are_parts : Addr
  fd_are_parts : FuncData
  F_are_parts : Fun K "are_parts" "are_parts" s_are_parts f_are_parts fd_are_parts
  g_are_parts : mg "are_parts" = some (.ref f_are_parts)
  b_are_parts : Binds K fd_are_parts ["start", "arguments", "rows", "legs"] []
  f_law_begun : Addr
  fd_law_begun : FuncData
  F_law_begun : Fun K "_law_begun" "_law_begun" s_law_begun f_law_begun fd_law_begun
  g_law_begun : mg "_law_begun" = some (.ref f_law_begun)
  b_law_begun : Binds K fd_law_begun ["_law_script"] []
  f_law_mixed : Addr
  fd_law_mixed : FuncData
  F_law_mixed : Fun K "_law_mixed" "_law_mixed" s_law_mixed f_law_mixed fd_law_mixed
  g_law_mixed : mg "_law_mixed" = some (.ref f_law_mixed)
  b_law_mixed : Binds K fd_law_mixed ["_law_state"] []
  f_law_take : Addr
  fd_law_take : FuncData
  F_law_take : Fun K "_law_take" "_law_take" s_law_take f_law_take fd_law_take
  g_law_take : mg "_law_take" = some (.ref f_law_take)
  b_law_take : Binds K fd_law_take ["_law_state", "_law_size"] []
  f_law_pick : Addr
  fd_law_pick : FuncData
  F_law_pick : Fun K "_law_pick" "_law_pick" s_law_pick f_law_pick fd_law_pick
  g_law_pick : mg "_law_pick" = some (.ref f_law_pick)
  b_law_pick : Binds K fd_law_pick ["_law_state", "_law_some"] []
  f_law_odd : Addr
  fd_law_odd : FuncData
  F_law_odd : Fun K "_law_odd" "_law_odd" s_law_odd f_law_odd fd_law_odd
  g_law_odd : mg "_law_odd" = some (.ref f_law_odd)
  b_law_odd : Binds K fd_law_odd ["_law_state", "_law_k"] []
  f_law_choices : Addr
  fd_law_choices : FuncData
  F_law_choices : Fun K "_law_choices" "_law_choices" s_law_choices f_law_choices fd_law_choices
  g_law_choices : mg "_law_choices" = some (.ref f_law_choices)
  b_law_choices : Binds K fd_law_choices ["_law_state", "_law_k"] []
  f_law_is_choice : Addr
  fd_law_is_choice : FuncData
  F_law_is_choice : Fun K "_law_is_choice" "_law_is_choice" s_law_is_choice f_law_is_choice fd_law_is_choice
  g_law_is_choice : mg "_law_is_choice" = some (.ref f_law_is_choice)
  b_law_is_choice : Binds K fd_law_is_choice ["_law_value", "_law_k"] []
  f_law_are_strings : Addr
  fd_law_are_strings : FuncData
  F_law_are_strings : Fun K "_law_are_strings" "_law_are_strings" s_law_are_strings f_law_are_strings fd_law_are_strings
  g_law_are_strings : mg "_law_are_strings" = some (.ref f_law_are_strings)
  b_law_are_strings : Binds K fd_law_are_strings ["_law_value"] []
  f_law_are_choices : Addr
  fd_law_are_choices : FuncData
  F_law_are_choices : Fun K "_law_are_choices" "_law_are_choices" s_law_are_choices f_law_are_choices fd_law_are_choices
  g_law_are_choices : mg "_law_are_choices" = some (.ref f_law_are_choices)
  b_law_are_choices : Binds K fd_law_are_choices ["_law_value", "_law_k"] []
  f_law_is_row : Addr
  fd_law_is_row : FuncData
  F_law_is_row : Fun K "_law_is_row" "_law_is_row" s_law_is_row f_law_is_row fd_law_is_row
  g_law_is_row : mg "_law_is_row" = some (.ref f_law_is_row)
  b_law_is_row : Binds K fd_law_is_row ["_law_value", "_law_k"] []
  f_law_are_parts : Addr
  fd_law_are_parts : FuncData
  F_law_are_parts : Fun K "_law_are_parts" "_law_are_parts" s_law_are_parts f_law_are_parts fd_law_are_parts
  g_law_are_parts : mg "_law_are_parts" = some (.ref f_law_are_parts)
  b_law_are_parts : Binds K fd_law_are_parts ["_law_parts"] []
  f_law_spoilt_row : Addr
  fd_law_spoilt_row : FuncData
  F_law_spoilt_row : Fun K "_law_spoilt_row" "_law_spoilt_row" s_law_spoilt_row f_law_spoilt_row fd_law_spoilt_row
  g_law_spoilt_row : mg "_law_spoilt_row" = some (.ref f_law_spoilt_row)
  b_law_spoilt_row : Binds K fd_law_spoilt_row ["_law_state", "_law_row", "_law_k"] []
  f_law_spoilt : Addr
  fd_law_spoilt : FuncData
  F_law_spoilt : Fun K "_law_spoilt" "_law_spoilt" s_law_spoilt f_law_spoilt fd_law_spoilt
  g_law_spoilt : mg "_law_spoilt" = some (.ref f_law_spoilt)
  b_law_spoilt : Binds K fd_law_spoilt ["_law_state", "_law_parts"] []
  f_law : Addr
  fd_law : FuncData
  F_law : Fun K "law" "law" s_law f_law fd_law
  g_law : mg "law" = some (.ref f_law)
  b_law : Binds K fd_law ["_law_script"] []
  z_isinstance : mg "isinstance" = none
  z_str : mg "str" = none
  z_all : mg "all" = none
  z_len : mg "len" = none
  z_tuple : mg "tuple" = none
  z_int : mg "int" = none
  z_bool : mg "bool" = none
  z_enumerate : mg "enumerate" = none
  z_sum : mg "sum" = none
  z_list : mg "list" = none
  z_range : mg "range" = none
  z_ValueError : mg "ValueError" = none
  C_Route : Addr
  gC_Route : mg "Route" = some (.ref C_Route)
  cl_Route : Cls K C_Route
  sf_Route : PySem.W.selfFirst K C_Route = true
  ih_Route : PySem.W.findIn K (.ref C_Route) "__class__" = some (some (.builtin "object.__class__"))
  in_Route : PySem.W.specialIn K (.builtin "object.__class__") "__get__" = some (some (.builtin "getset_descriptor.__get__"))
  it_Route : PySem.W.takesIn K (.builtin "object.__class__") = some true
  im_Route : PySem.W.mroIn K C_Route (.type "object") = some true
  ne_Route : PySem.W.findIn K (.ref C_Route) "__ne__" = some (some (.builtin "object.__ne__"))
  ty_Route : PySem.W.typeIn K (.ref C_Route) = some (.type "type")
  at_Route_start : NoAttr K C_Route "start"
  at_Route_arguments : NoAttr K C_Route "arguments"
  at_Route_rows : NoAttr K C_Route "rows"
  at_Route_legs : NoAttr K C_Route "legs"
  at_Route_counts : NoAttr K C_Route "counts"
  at_Route_count : NoAttr K C_Route "count"
  f_Route_init : Addr
  fd_Route_init : FuncData
  F_Route_init : Fun K "__init__" "Route.__init__" s_Route_init f_Route_init fd_Route_init
  m_Route_init : Meth K C_Route "__init__" f_Route_init
  mk_Route : Mk K C_Route f_Route_init
  b_Route_init : Binds K fd_Route_init ["self", "start", "arguments", "rows", "legs"] []
  f_Route_counted : Addr
  fd_Route_counted : FuncData
  F_Route_counted : Fun K "counted" "Route.counted" s_Route_counted f_Route_counted fd_Route_counted
  m_Route_counted : Meth K C_Route "counted" f_Route_counted
  b_Route_counted : Binds K fd_Route_counted ["self", "choices"] []
  C_SpareError : Addr
  gC_SpareError : mg "SpareError" = some (.ref C_SpareError)
  x_SpareError : ExcC K C_SpareError
  xf_SpareError : XfC K C_SpareError
  kC_SpareError : PySem.W.keepIn K (.ref C_SpareError) = true
  ty_SpareError : PySem.W.typeIn K (.ref C_SpareError) = some (.type "type")
  m_SpareError : PySem.W.exmOne K (.ref C_SpareError) (.ref C_SpareError) = some true
  C_BadCase : Addr
  gC_BadCase : mg "BadCase" = some (.ref C_BadCase)
  x_BadCase : ExcC K C_BadCase
  xf_BadCase : XfC K C_BadCase
  kC_BadCase : PySem.W.keepIn K (.ref C_BadCase) = true
  ty_BadCase : PySem.W.typeIn K (.ref C_BadCase) = some (.type "type")
  m_BadCase : PySem.W.exmOne K (.ref C_BadCase) (.ref C_SpareError) = some true
  mr_BadCase : ∃ cd : ClassData, PySem.W.clsIn K C_BadCase = some cd ∧ cd.mro = [.ref C_BadCase, .ref C_SpareError, .type "ValueError", .type "Exception", .type "BaseException", .type "object"]
  xi_BadCase : PySem.W.excIn K C_BadCase [.type "ValueError", .type "Exception", .type "BaseException", .type "object"] "ValueError.__new__" = true
  C_BadRoute : Addr
  gC_BadRoute : mg "BadRoute" = some (.ref C_BadRoute)
  x_BadRoute : ExcC K C_BadRoute
  xf_BadRoute : XfC K C_BadRoute
  kC_BadRoute : PySem.W.keepIn K (.ref C_BadRoute) = true
  ty_BadRoute : PySem.W.typeIn K (.ref C_BadRoute) = some (.type "type")
  m_BadRoute : PySem.W.exmOne K (.ref C_BadRoute) (.ref C_SpareError) = some true
  mr_BadRoute : ∃ cd : ClassData, PySem.W.clsIn K C_BadRoute = some cd ∧ cd.mro = [.ref C_BadRoute, .ref C_SpareError, .type "ValueError", .type "Exception", .type "BaseException", .type "object"]
  xi_BadRoute : PySem.W.excIn K C_BadRoute [.type "ValueError", .type "Exception", .type "BaseException", .type "object"] "ValueError.__new__" = true
  dif : [C_SpareError, C_BadCase, C_BadRoute].Nodup
end Sn

/-! ## The drawing state of the laws: _law_begun, _law_mixed, _law_take, _law_pick. What is drawn is not told, only its bounds -/
namespace Sn
open PySem PySem.Spec PyProof.Rows L2

/-- the state's dict -/
def drK (g c : Addr) (l t : Int) : List (Key × V) :=
  [(Sum.inr "great", .ref g), (Sum.inr "cells", .ref c), (Sum.inr "left", .int l), (Sum.inr "turn", .int t)]
/-- the drawing state stands at d, its two lists at g and c; at most m numbers were mixed so far -/
structure Dr (H : Hp) (d g c : Addr) (m : Nat) : Prop where
  di : ∃ l t : Int, 0 ≤ t ∧ t ≤ m ∧ H d = some (.dK (drK g c l t))
  gr : ∃ ns : List Int, H g = some (.lst (ns.map V.int))
  ce : ∃ ns : List Int, H c = some (.lst (ns.map V.int))
  gc : g ≠ c
theorem Dr.mono {H : Hp} {d g c : Addr} {m n : Nat} (D : Dr H d g c m) (h : m ≤ n) : Dr H d g c n := by
  obtain ⟨l, t, h0, h1, h2⟩ := D.di
  exact ⟨⟨l, t, h0, by omega, h2⟩, D.gr, D.ce, D.gc⟩
theorem Dr.dg {H : Hp} {d g c : Addr} {m : Nat} (D : Dr H d g c m) : d ≠ g := by
  obtain ⟨l, t, _, _, h2⟩ := D.di
  obtain ⟨ns, h3⟩ := D.gr
  exact ne_of h2 h3 (by intro z; cases z)
theorem Dr.dc {H : Hp} {d g c : Addr} {m : Nat} (D : Dr H d g c m) : d ≠ c := by
  obtain ⟨l, t, _, _, h2⟩ := D.di
  obtain ⟨ns, h3⟩ := D.ce
  exact ne_of h2 h3 (by intro z; cases z)
/-- all that was tracked stands, but the state's dict and its first list -/
def Mv (d g : Addr) (H H' : Hp) : Prop := ∀ b o, b ≠ d → b ≠ g → H b = some o → H' b = some o
theorem Mv.refl (d g : Addr) (H : Hp) : Mv d g H H := fun _ _ _ _ e => e
theorem Mv.trans {d g : Addr} {H H1 H2 : Hp} (a : Mv d g H H1) (b : Mv d g H1 H2) : Mv d g H H2 :=
  fun x o h1 h2 e => b x o h1 h2 (a x o h1 h2 e)
theorem Mv.same {d g : Addr} {H H1 : Hp} (a : Same H H1) : Mv d g H H1 := fun x o _ _ e => a x o e
theorem Mv.upd {d g : Addr} {H : Hp} {o : HO} : Mv d g H (upd H d o) := fun b x h1 _ e => by rw [upd_ne h1]; exact e
theorem same_new {H : Hp} {p : Addr} {o : HO} (h : H p = none) : Same H (upd H p o) := fun b x e => by
  rw [upd_ne (ne_of_none e h)]
  exact e
/-- the state stays where all that is tracked stays -/
theorem Dr.same {H H' : Hp} {d g c : Addr} {m : Nat} (D : Dr H d g c m) (s : Same H H') : Dr H' d g c m := by
  obtain ⟨⟨l, t, h0, h1, h2⟩, ⟨a, h3⟩, ⟨b, h4⟩, h5⟩ := D
  exact ⟨⟨l, t, h0, h1, s _ _ h2⟩, ⟨a, s _ _ h3⟩, ⟨b, s _ _ h4⟩, h5⟩
theorem get_great (g c : Addr) (l t : Int) : valV (drK g c l t) (Sum.inr "great" : Key) = some (.ref g) := by kernel_rfl
theorem get_cells (g c : Addr) (l t : Int) : valV (drK g c l t) (Sum.inr "cells" : Key) = some (.ref c) := by kernel_rfl
theorem get_left (g c : Addr) (l t : Int) : valV (drK g c l t) (Sum.inr "left" : Key) = some (.int l) := by kernel_rfl
theorem get_turn (g c : Addr) (l t : Int) : valV (drK g c l t) (Sum.inr "turn" : Key) = some (.int t) := by kernel_rfl
theorem put_left (g c : Addr) (l t x : Int) : putK (drK g c l t) (Sum.inr "left" : Key) (.int x) = drK g c x t := by kernel_rfl
theorem put_turn (g c : Addr) (l t x : Int) : putK (drK g c l t) (Sum.inr "turn" : Key) (.int x) = drK g c l x := by kernel_rfl
theorem dget_of {H : Hp} {d : Addr} {kvs : List (Key × V)} {x : Str} {v : V} (h : H d = some (.dK kvs)) (e : valV kvs (Sum.inr x : Key) = some v) :
    DGet H d (.str x) (some v) := .inl ⟨kvs, Sum.inr x, .inl h, rfl, e.symm⟩
theorem dput_of {H : Hp} {d : Addr} {kvs kvs' : List (Key × V)} {x : Str} {v : V} (h : H d = some (.dK kvs)) (hl : kvs.length ≤ 1000) (e : putK kvs (Sum.inr x : Key) v = kvs') :
    DPut H d (.str x) v (upd H d (.dK kvs')) := .inl ⟨kvs, Sum.inr x, h, rfl, small1000 hl, by rw [e]⟩

theorem dp_ints {K : PySem.W.Frag} {H : Hp} : ∀ ns : List Int, DpAll K H (ns.map V.int) (ns.map PyData.int)
  | [] => .nil
  | n :: r => .cons (.int n) (dp_ints r)
theorem ix0 (x : Int) (r : List Int) : seqIndex? 0 ((x :: r).map V.int).length = some 0 := by
  rw [List.map_cons, List.length_cons]
  simp [seqIndex?]
theorem small4 (g c : Addr) (l t : Int) : (drK g c l t).length ≤ 1000 := by show 4 ≤ 1000; decide
def primes : List Int := [2147483629, 2147483587, 2147483579, 2147483563, 2147483549, 2147483543]
theorem primes_lo : ∀ q ∈ primes, 2147483543 ≤ q := by decide
theorem primes_hi : ∀ q ∈ primes, q ≤ 2147483629 := by decide
section
variable {P : Program} {w : World} {K : PySem.W.Frag} {mg : Str → Option Value} {base : Heap}
/-- _law_mixed: some number; one more was mixed -/
def spMixed : Sp := fun vs H Q _ => ∃ (d g c : Addr) (m : Nat), vs = [.ref d] ∧ Dr H d g c m ∧ m ≤ 1000000000 ∧
  ∀ (r : Int) (H' : Hp), Dr H' d g c (m + 1) → H' g = H g → Mv d g H H' → Q (.int r) H'
theorem ok_mixed (T : Txt K mg) : FnOk P w K mg base CX0 1 T.f_law_mixed T.fd_law_mixed ["_law_state"] spMixed := by
  refine T.F_law_mixed.ok sc_law_mixed (fun vs H Q E h => ?_) (fun cdv A outer s H vs Q E hr h => ?_)
  · obtain ⟨d, g, c, m, rfl, _⟩ := h
    rfl
  · obtain ⟨d, g, c, m, rfl, D, hm, k⟩ := h
    have hu := hu_of hr
    refine ⟨_, pss_cons (ps_dput hu (pv 0) pe_str (pe_op op_add (pe_dget hu (pv 0) pe_str (fun _ _ => rfl)) pe_int) rfl)
      (pss_cons (ps_set (i := 1) sc_law_mixed.nd rfl (Or.inl rfl) pe_int)
      (pss_cons (ps_for PassesOwn.never rfl (pi_list (pe_lst (pa_cons pe_int (pa_cons pe_int (pa_cons pe_int (pa_cons pe_int (pa_cons pe_int (pa_cons pe_int pa_nil)))))))) (pg_name (i := 2) sc_law_mixed.nd rfl (Or.inl rfl))
        (pss_cons (ps_set (i := 3) sc_law_mixed.nd rfl (Or.inl rfl) (pe_op op_add (pe_op op_mul pe_int (pe_dget hu (pv 0) pe_str (fun _ _ => rfl))) (pe_op op_fdivN (pv 2) pe_int)))
        (pss_cons (ps_for PassesOwn.never rfl (pi_list (pe_dget hu (pv 0) pe_str (fun _ _ => rfl))) (pg_name (i := 4) sc_law_mixed.nd rfl (Or.inl rfl))
          (pss_one (ps_set (i := 3) sc_law_mixed.nd rfl (Or.inl rfl) (pe_op op_modN (pe_callTy call_int1 (by rfl) T.z_int (by decide +kernel) (pa_cons (pe_op op_add (pe_op op_mul (pv 3) pe_int) (pv 4)) pa_nil)) (pv 2)))))
        (pss_one (ps_set (i := 1) sc_law_mixed.nd rfl (Or.inl rfl) (pe_op op_add (pe_op op_mul (pv 1) pe_int) (pe_op op_modN (pe_callTy call_int1 (by rfl) T.z_int (by decide +kernel) (pa_cons (pe_op op_pow (pv 3) pe_int) pa_nil)) (pv 2))))))))
      (pss_one (ps_ret (pv 1))))), ?_⟩
    obtain ⟨⟨l, t, h0, h1, hd⟩, ⟨gs, hg⟩, ⟨cs, hc⟩, hgc⟩ := id D
    refine ⟨_, rfl, d, _, rfl, dget_of hd (get_turn g c l t), _, _, rfl, rfl, _, rfl, d, _, rfl, dput_of hd (small4 g c l t) (put_turn g c l t _), ?_⟩
    refine ⟨(by show 6 ≤ sizeLine; decide), fun p hp => ?_⟩
    have npd : p ≠ d := fun e => by rw [e, upd_same] at hp; cases hp
    have hp0 : H p = none := by rw [upd_ne npd] at hp; exact hp
    have ncd : c ≠ d := fun e => by rw [e, hd] at hc; cases hc
    have ngd : g ≠ d := fun e => by rw [e, hd] at hg; cases hg
    generalize eH2 : upd (upd H d (.dK (drK g c l (t + 1)))) p (.lst [.int 2147483629, .int 2147483587, .int 2147483579, .int 2147483563, .int 2147483549, .int 2147483543]) = H2
    have fd : H2 d = some (.dK (drK g c l (t + 1))) := by rw [← eH2, upd_ne npd.symm, upd_same]
    have fc : H2 c = some (.lst (cs.map V.int)) := by rw [← eH2, upd_ne (ne_of_none hc hp0), upd_ne ncd]; exact hc
    have fg : H2 g = some (.lst (gs.map V.int)) := by rw [← eH2, upd_ne (ne_of_none hg hp0), upd_ne ngd]; exact hg
    have fp : H2 p = some (.lst (primes.map V.int)) := by rw [← eH2, upd_same]; rfl
    refine ⟨p, rfl, ⟨_, .inl (.inl fp)⟩, for_list (K := K) (a := p) (xs := primes.map V.int)
      (fun i σ H3 => ∃ (v2 v3 v4 : Option V) (f : Int), H2 = H3 ∧ σ = [some (.ref d), some (.int f), v2, v3, v4]) ⟨none, none, none, 0, rfl, rfl⟩ (fun i σ H3 _ ⟨_, _, _, _, e, _⟩ => by rw [← e]; exact .inl (.inl fp)) ?_ ?_⟩
    · rintro i y σ H3 hi ⟨v2, v3, v4, f, rfl, rfl⟩
      obtain ⟨q, rfl, q1, q2⟩ : ∃ q : Int, y = .int q ∧ 2147483543 ≤ q ∧ q ≤ 2147483629 := by
        have hm : y ∈ primes.map V.int := List.mem_of_getElem? hi
        obtain ⟨q, hq, rfl⟩ := List.mem_map.mp hm
        exact ⟨q, rfl, primes_lo q hq, primes_hi q hq⟩
      -- blend = 69997 * turn + prime // 11
      refine ⟨_, rfl, d, _, rfl, dget_of fd (get_turn g c l (t + 1)), _, _, rfl, rfl, .inl ⟨by decide, by decide⟩, _, rfl, _, _, rfl, rfl, ⟨by decide, by decide⟩, _, _, rfl, rfl, ?_⟩
      have b0 : 0 ≤ 69997 * (t + 1) + Int.fdiv q 11 ∧ 69997 * (t + 1) + Int.fdiv q 11 < 9223372036854775808 := by
        rw [Int.fdiv_eq_ediv_of_nonneg _ (by decide)]
        omega
      -- for cell in state["cells"]
      refine ⟨_, rfl, d, _, rfl, dget_of fd (get_cells g c l (t + 1)), c, rfl, ⟨_, .inl (.inl fc)⟩, for_list (K := K) (a := c) (xs := cs.map V.int)
        (fun i σ H3 => ∃ (v4 : Option V) (b : Int), H2 = H3 ∧ (0 ≤ b ∧ b < 9223372036854775808) ∧ σ = [some (.ref d), some (.int f), some (.int q), some (.int b), v4]) ⟨v4, _, rfl, b0, rfl⟩
        (fun i σ H3 _ ⟨_, _, e, _, _⟩ => by rw [← e]; exact .inl (.inl fc)) ?_ ?_⟩
      · rintro j x σ H3 hj ⟨v4, b, rfl, hb, rfl⟩
        obtain ⟨z, hz, rfl⟩ := List.mem_map.mp (List.mem_of_getElem? hj)
        refine ⟨_, rfl, _, _, rfl, rfl, .inr ⟨by decide, by decide⟩, _, rfl, _, _, rfl, rfl, .inl ⟨_, rfl, _, rfl, _, _, rfl, rfl, (by omega), ?_⟩⟩
        refine ⟨_, _, rfl, ?_, rfl⟩
        rw [Int.fmod_eq_emod_of_nonneg _ (by omega)]
        have e1 := Int.emod_nonneg (b * 48271 + z) (b := q) (by omega)
        have e2 := Int.emod_lt_of_pos (b * 48271 + z) (b := q) (by omega)
        omega
      · rintro σ H3 ⟨v4, b, rfl, hb, rfl⟩
        refine ⟨_, rfl, _, _, rfl, rfl, .inr ⟨by decide, by decide⟩, _, rfl, _, _, rfl, rfl, ⟨by decide, by decide, by omega⟩, .inl ⟨_, rfl, _, rfl, _, _, rfl, rfl, (by omega), _, _, rfl, rfl, ?_⟩⟩
        exact ⟨_, _, _, _, rfl, rfl⟩
    · rintro σ H3 ⟨v2, v3, v4, f, rfl, rfl⟩
      refine ⟨_, rfl, k f _ ⟨⟨l, t + 1, by omega, by omega, fd⟩, ⟨gs, fg⟩, ⟨cs, fc⟩, hgc⟩ (fg.trans hg.symm) fun b o h1 h2 e => ?_⟩
      rw [← eH2, upd_ne (ne_of_none e hp0), upd_ne h1]
      exact e
/-- _law_take: some number from 0 to size - 1 -/
def spTake : Sp := fun vs H Q _ => ∃ (d g c : Addr) (m : Nat) (n : Int), vs = [.ref d, .int n] ∧ Dr H d g c m ∧ m ≤ 1000000000 ∧ 0 < n ∧ n < 1000000000 ∧
  ∀ (r : Int) (H' : Hp), 0 ≤ r → r < n → Dr H' d g c (m + 1) → Mv d g H H' → Q (.int r) H'
theorem ok_take (T : Txt K mg) : FnOk P w K mg base CX0 2 T.f_law_take T.fd_law_take ["_law_state", "_law_size"] spTake := by
  have GM : FnOk P w K mg base CX0 1 T.f_law_mixed T.fd_law_mixed ["_law_state"] spMixed := ok_mixed T
  refine T.F_law_take.ok sc_law_take (fun vs H Q E h => ?_) (fun cdv A outer s H vs Q E hr h => ?_)
  · obtain ⟨d, g, c, m, n, rfl, _⟩ := h
    rfl
  · obtain ⟨d, g, c, m, n, rfl, D, hm, n0, n1, k⟩ := h
    have hu := hu_of hr
    refine ⟨_, pss_cons (ps_if (pt_cmpR op_eq (pe_dget hu (pv 0) pe_str (fun _ _ => rfl)) pe_int (nomark _))
        (pss_one (ps_dput hu (pv 0) pe_str (pe_ifExp (pt_cmpR (op_neD hr.units) (pe_dget hu (pv 0) pe_str (fun _ _ => rfl)) (pe_lst pa_nil) (nomark _))
          (pe_bm PySem.F.plainAttrs_list PySem.F.slot_list_pop PySem.F.type_list_pop mt_popAt (pe_dget hu (pv 0) pe_str (fun _ _ => rfl)) (pa_cons pe_int pa_nil))
          (pe_call GM hr rfl T.g_law_mixed T.F_law_mixed.kp T.b_law_mixed .nil pass0 (pa_cons (pv 0) pa_nil))) rfl)) pss_nil)
      (pss_cons (ps_set (i := 2) sc_law_take.nd rfl (Or.inl rfl) (pe_op op_modN (pe_callTy call_int1 (by rfl) T.z_int (by decide +kernel) (pa_cons (pe_dget hu (pv 0) pe_str (fun _ _ => rfl)) pa_nil)) (pv 1)))
      (pss_cons (ps_dput hu (pv 0) pe_str (pe_op op_fdivN (pe_dget hu (pv 0) pe_str (fun _ _ => rfl)) (pv 1)) rfl)
      (pss_one (ps_ret (pv 2))))), ?_⟩
    obtain ⟨⟨l, t, h0, h1, hd⟩, ⟨gs, hg⟩, ⟨cs, hc⟩, hgc⟩ := id D
    have ngd : g ≠ d := fun e => by rw [e, hd] at hg; cases hg
    have ncd : c ≠ d := fun e => by rw [e, hd] at hc; cases hc
    refine ⟨_, rfl, d, _, rfl, dget_of hd (get_left g c l t), rfl, _, rfl, ?_⟩
    have tail : ∀ (x y : Int) (H1 : Hp), 0 ≤ y → y ≤ m + 1 → H1 d = some (.dK (drK g c x y)) → (∃ ns : List Int, H1 g = some (.lst (ns.map V.int))) → H1 c = some (.lst (cs.map V.int)) → Mv d g H H1 →
        (0 ≤ Int.fmod x n ∧ Int.fmod x n < n) ∧ Q (.int (Int.fmod x n)) (upd H1 d (.dK (drK g c (Int.fdiv x n) y))) := by
      intro x y H1 y0 y1 e1 e2 e3 mv
      have r0 : 0 ≤ Int.fmod x n ∧ Int.fmod x n < n := by
        rw [Int.fmod_eq_emod_of_nonneg _ (by omega)]
        exact ⟨Int.emod_nonneg _ (by omega), Int.emod_lt_of_pos _ n0⟩
      obtain ⟨ns, e2⟩ := e2
      refine ⟨r0, k _ _ r0.1 r0.2 ⟨⟨_, y, y0, by omega, upd_same⟩, ⟨ns, by rw [upd_ne ngd]; exact e2⟩, ⟨cs, by rw [upd_ne ncd]; exact e3⟩, hgc⟩ (mv.trans Mv.upd)⟩
    refine ite2 (fun _ => ?_) (fun _ => ?_)
    · refine ⟨_, rfl, d, _, rfl, dget_of hd (get_great g c l t), (by show 0 ≤ sizeLine; decide), fun p hp => ?_⟩
      have sp1 : Same H (upd H p (.lst [])) := same_new hp
      refine ⟨_, _, .lst (.inl (.inl (sp1 _ _ hg))) (dp_ints gs), .lst (.inl (.inl upd_same)) .nil, PySem.W.ke_shaped_ints gs, by decide, _, rfl, ?_⟩
      match gs, hg with
      | [], hg =>
        refine iteF ?_
        refine ⟨_, rfl, d, g, c, m, rfl, D.same sp1, hm, fun r H1 D1 eg mv => ?_⟩
        obtain ⟨⟨l1, t1, g0, g1, hd1⟩, ⟨gs1, hg1⟩, ⟨cs1, hc1⟩, _⟩ := id D1
        refine ⟨_, rfl, d, _, rfl, dput_of hd1 (small4 g c l1 t1) (put_left g c l1 t1 r), ?_⟩
        have hc2 : H1 c = some (.lst (cs.map V.int)) := mv c _ ncd hgc.symm (sp1 _ _ hc)
        obtain ⟨r0, z⟩ := tail r t1 (upd H1 d (.dK (drK g c r t1))) g0 (by omega) upd_same ⟨gs1, by rw [upd_ne ngd]; exact hg1⟩ (by rw [upd_ne ncd]; exact hc2) (((Mv.same sp1).trans mv).trans Mv.upd)
        refine ⟨_, rfl, d, _, rfl, dget_of upd_same (get_left g c r t1), .inl ⟨_, rfl, _, rfl, _, _, rfl, rfl, (by omega), ?_⟩⟩
        exact ⟨_, rfl, d, _, rfl, dget_of upd_same (get_left g c r t1), _, rfl, _, _, rfl, rfl, ⟨by omega, by omega⟩, _, rfl, d, _, rfl, dput_of upd_same (small4 g c r t1) (put_left g c r t1 _), _, rfl, z⟩
      | x :: gs, hg =>
        refine iteT ?_
        refine ⟨_, rfl, d, _, rfl, dget_of (sp1 _ _ hd) (get_great g c l t), .inl ⟨rfl, _, .inl (.inl (sp1 _ _ hg))⟩, g, _, 0, 0, _, rfl, rfl, sp1 _ _ hg, by decide, by decide, ix0 _ _, rfl, ?_⟩
        have hd1 : (upd (upd H p (.lst [])) g (.lst (((x :: gs).map V.int).eraseIdx 0))) d = some (.dK (drK g c l t)) := by rw [upd_ne ngd.symm]; exact sp1 _ _ hd
        refine ⟨_, rfl, d, _, rfl, dput_of hd1 (small4 g c l t) (put_left g c l t x), ?_⟩
        obtain ⟨r0, z⟩ := tail x t (upd (upd (upd H p (.lst [])) g (.lst (((x :: gs).map V.int).eraseIdx 0))) d (.dK (drK g c x t))) h0 (by omega) upd_same ⟨gs, by rw [upd_ne ngd, upd_same]; rfl⟩ (by rw [upd_ne ncd, upd_ne hgc.symm]; exact sp1 _ _ hc) (fun b o b1 b2 e => by rw [upd_ne b1, upd_ne b2]; exact sp1 _ _ e)
        refine ⟨_, rfl, d, _, rfl, dget_of upd_same (get_left g c x t), .inl ⟨_, rfl, _, rfl, _, _, rfl, rfl, (by omega), ?_⟩⟩
        exact ⟨_, rfl, d, _, rfl, dget_of upd_same (get_left g c x t), _, rfl, _, _, rfl, rfl, ⟨by omega, by omega⟩, _, rfl, d, _, rfl, dput_of upd_same (small4 g c x t) (put_left g c x t _), _, rfl, z⟩
    · obtain ⟨r0, z⟩ := tail l t H h0 (by omega) hd ⟨gs, hg⟩ hc (Mv.refl _ _ _)
      refine ⟨_, rfl, d, _, rfl, dget_of hd (get_left g c l t), .inl ⟨_, rfl, _, rfl, _, _, rfl, rfl, (by omega), ?_⟩⟩
      exact ⟨_, rfl, d, _, rfl, dget_of hd (get_left g c l t), _, rfl, _, _, rfl, rfl, ⟨by omega, by omega⟩, _, rfl, d, _, rfl, dput_of hd (small4 g c l t) (put_left g c l t _), _, rfl, z⟩
theorem at_int {α : Type} {xs : List α} {r : Int} (h0 : 0 ≤ r) (h1 : r < xs.length) : ∃ v, v ∈ xs ∧ atI xs r = some v := by
  obtain ⟨j, rfl⟩ := Int.eq_ofNat_of_zero_le h0
  have hj : j < xs.length := by omega
  exact ⟨xs[j], List.getElem_mem hj, atI_nat (List.getElem?_eq_getElem hj)⟩
/-- _law_pick: a sign of a text that is not empty, an item of a list that is not empty -/
def spPick : Sp := fun vs H Q _ => ∃ (d g c : Addr) (m : Nat), Dr H d g c m ∧ m ≤ 1000000000 ∧
  ((∃ z : Str, vs = [.ref d, .str z] ∧ 0 < z.length ∧ z.length ≤ 1000 ∧ ∀ (x : Nat) (H' : Hp), x ∈ z.cps.toList → Dr H' d g c (m + 1) → Mv d g H H' → Q (.str ⟨#[x]⟩) H') ∨
   (∃ (p : Addr) (xs : List V), vs = [.ref d, .ref p] ∧ H p = some (.lst xs) ∧ p ≠ g ∧ 0 < xs.length ∧ xs.length ≤ 1000 ∧ ∀ (x : V) (H' : Hp), x ∈ xs → Dr H' d g c (m + 1) → Mv d g H H' → Q x H'))
theorem ok_pick (T : Txt K mg) : FnOk P w K mg base CX0 3 T.f_law_pick T.fd_law_pick ["_law_state", "_law_some"] spPick := by
  have GT : FnOk P w K mg base CX0 2 T.f_law_take T.fd_law_take ["_law_state", "_law_size"] spTake := ok_take T
  refine T.F_law_pick.ok sc_law_pick (fun vs H Q E h => ?_) (fun cdv A outer s H vs Q E hr h => ?_)
  · obtain ⟨d, g, c, m, _, _, ⟨z, rfl, _⟩ | ⟨p, xs, rfl, _⟩⟩ := h
    · rfl
    · rfl
  · obtain ⟨d, g, c, m, D, hm, h⟩ := h
    refine ⟨_, pss_one (ps_ret (pe_ix ix_seq (pv 1) (pe_call GT hr rfl T.g_law_take T.F_law_take.kp T.b_law_take .nil pass0 (pa_cons (pv 0) (pa_cons (pe_callB call_len (by rfl) T.z_len PySem.boot_len (pa_cons (pv 1) pa_nil)) pa_nil))) (fun _ _ => rfl))), ?_⟩
    rcases h with ⟨z, rfl, z0, z1, k⟩ | ⟨p, xs, rfl, hp, npg, z0, z1, k⟩
    · have zs : z.length ≤ sizeLine := Nat.le_of_lt (small1000 z1)
      refine ⟨_, rfl, _, rfl, _, rfl, _, z.length, rfl, ⟨zs, rfl⟩, d, g, c, m, _, rfl, D, hm, by omega, by omega, fun r H' r0 r1 D' mv => ?_⟩
      obtain ⟨x, hx, ex⟩ := at_int (xs := z.cps.toList) r0 (by show r < (z.length : Int); omega)
      exact .inr (.inr ⟨z, r, x, rfl, rfl, zs, ex, k _ H' hx D' mv⟩)
    · refine ⟨_, rfl, _, rfl, _, rfl, _, xs.length, rfl, .inl ⟨xs, .inl (.inl hp), rfl⟩, d, g, c, m, _, rfl, D, hm, by omega, by omega, fun r H' r0 r1 D' mv => ?_⟩
      have npd : p ≠ d := by
        obtain ⟨l, t, _, _, hd⟩ := D.di
        exact ne_of hp hd (by intro z; cases z)
      obtain ⟨x, hx, ex⟩ := at_int (xs := xs) r0 r1
      exact .inl ⟨p, xs, r, x, rfl, rfl, .inl (.inl (mv p _ npd npg hp)), ex, k _ H' hx D' mv⟩
/-- _law_begun: a new state -/
def spBegun (K : PySem.W.Frag) : Sp := fun vs H Q _ => ∃ (a : Addr) (ns : List Int), vs = [.ref a] ∧ SqL K H a (ns.map V.int) ∧ ns.length ≤ 1000 ∧
  ∀ (d g c : Addr) (H' : Hp), H d = none → H g = none → H c = none → Dr H' d g c 0 → Same H H' → Q (.ref d) H'
theorem ok_begun (T : Txt K mg) : FnOk P w K mg base CX0 1 T.f_law_begun T.fd_law_begun ["_law_script"] (spBegun K) := by
  refine T.F_law_begun.ok sc_law_begun (fun vs H Q E h => ?_) (fun cdv A outer s H vs Q E hr h => ?_)
  · obtain ⟨a, ns, rfl, _⟩ := h
    rfl
  · obtain ⟨a, ns, rfl, hS, hl, k⟩ := h
    refine ⟨_, pss_cons (ps_setLc (i := 1) (own := [("_law_cell", 2)]) (g := gName 2) rfl sc_law_begun.nd rfl rfl (sw_true rfl rfl rfl (by decide +kernel)) (pi_list (pv 0))
        (blkOk_by (own := [("_law_cell", 2)]) (N := n_law_begun) (sc := defScope s_law_begun) (by decide +kernel))
        (fun _ _ _ _ _ => pg_name (i := 2) sc_law_begun.nd rfl (Or.inl rfl))
        (fun _ _ _ _ _ => pts_one (pt_cmpR op_ge (pv 2) (pe_op op_pow pe_int pe_int) (nomark _)))
        (fun _ _ _ _ _ => pe_op op_sub (pv 2) (pe_op op_pow pe_int pe_int)))
      (pss_one (ps_ret (pe_disp (pps_cons pe_str (pv 1) (pps_cons pe_str (pe_callTy call_list_of (by rfl) T.z_list (by decide +kernel) (pa_cons (pv 0) pa_nil)) (pps_cons pe_str pe_int (pps_cons pe_str pe_int pps_nil)))) (by rfl) (by rfl) (fun z => by cases z) (by decide)))), ?_⟩
    refine ⟨_, rfl, a, rfl, ⟨_, hS⟩, fun D hD => ?_⟩
    have sm : ∀ o, Same H (upd H D o) := fun o => same_new hD
    refine lc_list (K := K) (a := a) (xs := ns.map V.int) (fun i H1 => ∃ gs : List Int, H1 = upd H D (.lst (gs.map V.int)) ∧ gs.length ≤ i) ⟨[], rfl, Nat.le_refl _⟩
      (fun i H1 _ ⟨gs, e, _⟩ => by rw [e]; exact (sm _).seq hS) ?_ ?_
    · rintro i x H1 hx ⟨gs, rfl, hg⟩
      have hi : i < (ns.map V.int).length := (List.getElem?_eq_some_iff.mp hx).1
      rw [List.length_map] at hi
      obtain ⟨z, hz, rfl⟩ := List.mem_map.mp (List.mem_of_getElem? hx)
      refine ⟨rfl, _, rfl, _, _, rfl, rfl, ⟨by decide, by decide, by decide⟩, _, _, rfl, rfl, _, rfl, ?_⟩
      refine ite2 (fun _ => ?_) (fun _ => ?_)
      · refine ⟨_, rfl, _, _, rfl, rfl, ⟨by decide, by decide, by decide⟩, _, _, rfl, rfl, _, upd_same, ?_, ?_⟩
        · rw [List.length_map]
          exact small1000 (by omega)
        · refine ⟨gs ++ [z - 10 ^ 18], ?_, by rw [List.length_append]; show gs.length + 1 ≤ i + 1; omega⟩
          rw [upd_upd, List.map_append]
          rfl
      · exact ⟨gs, rfl, by omega⟩
    · rintro H1 ⟨gs, rfl, hg⟩
      intro d hd
      have nDd : D ≠ d := fun e => by rw [← e, upd_same] at hd; cases hd
      have hd0 : H d = none := by rw [upd_ne nDd.symm] at hd; exact hd
      have s1 : Same (upd H D (.lst (gs.map V.int))) (upd (upd H D (.lst (gs.map V.int))) d (.dK [])) := same_new hd
      refine ⟨_, rfl, _, rfl, a, _, rfl, .inl (s1.seq ((sm _).seq hS)), fun c hc => ?_⟩
      have s2 : Same (upd (upd H D (.lst (gs.map V.int))) d (.dK [])) (upd (upd (upd H D (.lst (gs.map V.int))) d (.dK [])) c (.lst (ns.map V.int))) := same_new hc
      have hgD := s2 _ _ (s1 _ _ (upd_same (H := H) (a := D) (o := .lst (gs.map V.int))))
      have hdd := s2 _ _ (upd_same (H := upd H D (.lst (gs.map V.int))) (a := d) (o := .dK []))
      have ndc : d ≠ c := fun e => by rw [← e, upd_same] at hc; cases hc
      have nDc : D ≠ c := fun e => by rw [← e] at hc; rw [s1 _ _ upd_same] at hc; cases hc
      have hc0 : H c = none := by rw [upd_ne ndc.symm, upd_ne nDc.symm] at hc; exact hc
      refine ⟨hdd, drK D c 0 0, rfl, by show 4 ≤ 15; decide, ?_⟩
      have em : mergeK [] (drK D c 0 0) = drK D c 0 0 := by kernel_rfl
      rw [em]
      refine k d D c _ hd0 hD hc0 ⟨⟨0, 0, by omega, by omega, upd_same⟩, ⟨gs, ?_⟩, ⟨ns, ?_⟩, nDc⟩ fun b o e => ?_
      · rw [upd_ne nDd]; exact hgD
      · rw [upd_ne ndc.symm, upd_same]
      · rw [upd_ne (ne_of_none e hd0)]; exact s2 _ _ (s1 _ _ (sm _ _ _ e))
end
end Sn

/-! ## The drawing state beside new objects (for laws without Drawn and DrawnN, which say the same) -/
namespace Sn
open PySem PySem.Spec PyProof.Rows L2
theorem dr_new {H : Hp} {d g c p : Addr} {m : Nat} (D : Dr H d g c m) (h : H p = none) : p ≠ d ∧ p ≠ g ∧ p ≠ c := by
  obtain ⟨⟨l, t, _, _, hd⟩, ⟨gs, hg⟩, ⟨cs, hc⟩, _⟩ := D
  exact ⟨(ne_of_none hd h).symm, (ne_of_none hg h).symm, (ne_of_none hc h).symm⟩
theorem Dr.upd {H : Hp} {d g c L : Addr} {m : Nat} {o : HO} (D : Dr H d g c m) (h : L ≠ d ∧ L ≠ g ∧ L ≠ c) : Dr (L2.upd H L o) d g c m := by
  obtain ⟨⟨l, t, h0, h1, h2⟩, ⟨a, h3⟩, ⟨b, h4⟩, h5⟩ := D
  exact ⟨⟨l, t, h0, h1, by rw [upd_ne h.1.symm]; exact h2⟩, ⟨a, by rw [upd_ne h.2.1.symm]; exact h3⟩, ⟨b, by rw [upd_ne h.2.2.symm]; exact h4⟩, h5⟩
theorem Mv.put {d g L : Addr} {H H2 : Hp} {o : HO} (m : Mv d g H H2) (h : H L = none) : Mv d g H (L2.upd H2 L o) := fun b x h1 h2 e => by
  rw [upd_ne (ne_of_none e h)]
  exact m _ _ h1 h2 e
end Sn

/-! ## Comprehensions whose items leave the heap as it was but for new objects -/
namespace Sn
open PySem PySem.Spec PyProof.Rows L2
theorem same_at {H H2 : Hp} {L : Addr} {o : HO} (s : Same H H2) (h : H L = none) : Same H (upd H2 L o) := fun b x e => by
  rw [upd_ne (ne_of_none e h)]
  exact s _ _ e
section
variable {J : It} {n : Nat} {G : Hp → Prop} {Y : Nat → Hp → V → Hp → Prop}
/-- [e for x in xs] -/
theorem lc_out (w : Walk J n G Y) {g : TG} {te : TE} {vs : List Nat} {σ : L2.St} {H1 : Hp} {D : Addr} {Qd : Hp → Prop} (f : Nat → V) (hn : n ≤ 1000) (hD : H1 D = none) (hG : ∀ H, Same H1 H → G H)
    (hs : ∀ i x H H' (Qg : L2.St → Hp → Prop), i < n → Same H1 H → Y i H x H' → (∀ σ2 H2, Same H H2 → wipe σ2 vs = wipe σ vs → (∀ R : VK, (∀ H4, Same H2 H4 → R (f i) H4) → te σ2 H2 R) → Qg σ2 H2) → g x (wipe σ vs) H' Qg)
    (hd : ∀ H, Same H1 H → H D = some (.lst ((List.range n).map f)) → Qd H) :
    ∃ W : Nat → Nat → Hp → Prop, (∃ m, W 0 m (upd H1 D (.lst []))) ∧ ∀ i m H, W i m H →
      (J.stop i H ∧ Qd H) ∨ (J.go i H ∧ ∃ Nx : Hp → Prop, (∀ H', Nx H' → ∃ m', m' < m ∧ W (i + 1) m' H') ∧ ∀ x H', J.yld i H x H' → g x (wipe σ vs) H' fun σ2 H2 => wipe σ2 vs = wipe σ vs ∧ tYes σ2 H2 fun b H3 =>
        if b = true then te σ2 H3 fun y H4 => ∃ acc, H4 D = some (.lst acc) ∧ acc.length < sizeLine ∧ Nx (upd H4 D (.lst (acc ++ [y]))) else Nx H3) := by
  refine lc_it w (fun i H => Same H1 H ∧ H D = some (.lst ((List.range i).map f))) ⟨same_new hD, upd_same⟩ (fun i H _ q => hG H q.1) ?_ (fun H q => hd H q.1 q.2)
  rintro i x H H' hi ⟨s1, hl⟩ y
  refine hs i x H H' _ hi s1 y fun σ2 H2 s2 ew ht => ⟨ew, ?_⟩
  show te σ2 H2 fun y H4 => ∃ acc, H4 D = some (.lst acc) ∧ acc.length < sizeLine ∧ Same H1 (upd H4 D (.lst (acc ++ [y]))) ∧ (upd H4 D (.lst (acc ++ [y]))) D = some (.lst ((List.range (i + 1)).map f))
  refine ht _ fun H4 s4 => ?_
  refine ⟨_, s4 _ _ (s2 _ _ hl), small1000 (by rw [List.length_map, List.length_range]; omega), same_at ((s1.trans s2).trans s4) hD, ?_⟩
  rw [upd_same, List.range_succ, List.map_append]; rfl
/-- [e for x in xs if t] -/
theorem lc_outF (w : Walk J n G Y) {g : TG} {tt : TT} {te : TE} {vs : List Nat} {σ : L2.St} {H1 : Hp} {D : Addr} {Qd : Hp → Prop} (b : Nat → Bool) (f : Nat → V) (hn : n ≤ 1000) (hD : H1 D = none) (hG : ∀ H, Same H1 H → G H)
    (hs : ∀ i x H H' (Qg : L2.St → Hp → Prop), i < n → Same H1 H → Y i H x H' → (∀ σ2 H2, Same H H2 → wipe σ2 vs = wipe σ vs → (∀ H3 (R : VK), R (f i) H3 → te σ2 H3 R) → (∀ R : Bool → Hp → Prop, (∀ H4, Same H2 H4 → R (b i) H4) → tt σ2 H2 R) → Qg σ2 H2) → g x (wipe σ vs) H' Qg)
    (hd : ∀ H, Same H1 H → H D = some (.lst (((List.range n).filter b).map f)) → Qd H) :
    ∃ W : Nat → Nat → Hp → Prop, (∃ m, W 0 m (upd H1 D (.lst []))) ∧ ∀ i m H, W i m H →
      (J.stop i H ∧ Qd H) ∨ (J.go i H ∧ ∃ Nx : Hp → Prop, (∀ H', Nx H' → ∃ m', m' < m ∧ W (i + 1) m' H') ∧ ∀ x H', J.yld i H x H' → g x (wipe σ vs) H' fun σ2 H2 => wipe σ2 vs = wipe σ vs ∧ tt σ2 H2 fun b H3 =>
        if b = true then te σ2 H3 fun y H4 => ∃ acc, H4 D = some (.lst acc) ∧ acc.length < sizeLine ∧ Nx (upd H4 D (.lst (acc ++ [y]))) else Nx H3) := by
  refine lc_it w (fun i H => Same H1 H ∧ H D = some (.lst (((List.range i).filter b).map f))) ⟨same_new hD, upd_same⟩ (fun i H _ q => hG H q.1) ?_ (fun H q => hd H q.1 q.2)
  rintro i x H H' hi ⟨s1, hl⟩ y
  refine hs i x H H' _ hi s1 y fun σ2 H2 s2 ew he ht => ⟨ew, ht _ fun H4 s4 => ?_⟩
  have er : (List.range (i + 1)).filter b = (List.range i).filter b ++ if b i = true then [i] else [] := by
    rw [List.range_succ, List.filter_append]
    congr 1
    cases h : b i <;> simp [h]
  cases hb : b i with
  | true =>
    refine iteT (he _ _ ⟨_, s4 _ _ (s2 _ _ hl), small1000 ?_, same_at ((s1.trans s2).trans s4) hD, ?_⟩)
    · rw [List.length_map]
      have := List.length_filter_le b (List.range i)
      rw [List.length_range] at this
      omega
    · rw [upd_same, er, hb, if_pos rfl, List.map_append]; rfl
  | false =>
    refine iteF ⟨(s1.trans s2).trans s4, ?_⟩
    rw [er, hb, if_neg (by decide), List.append_nil]
    exact s4 _ _ (s2 _ _ hl)
end
theorem all_range {α : Type} (p : α → Bool) (z : α) : ∀ ds : List α, (List.range ds.length).all (fun i => p (ds.getD i z)) = ds.all p := by
  intro ds
  rw [Bool.eq_iff_iff, List.all_eq_true, List.all_eq_true]
  constructor
  · intro h x hx
    obtain ⟨i, hi, rfl⟩ := List.getElem_of_mem hx
    have := h i (List.mem_range.mpr hi)
    rwa [List.getD_eq_getElem?_getD, List.getElem?_eq_getElem hi] at this
  · intro h i hi
    have hi := List.mem_range.mp hi
    rw [List.getD_eq_getElem?_getD, List.getElem?_eq_getElem hi]
    exact h _ (List.getElem_mem hi)
theorem getD_of {α : Type} {ds : List α} {i : Nat} {d z : α} (h : ds[i]? = some d) : ds.getD i z = d := by
  rw [List.getD_eq_getElem?_getD, h]; rfl
/-- a filter that lets nothing through -/
theorem filter_nil {n : Nat} {b : Nat → Bool} {f : Nat → V} : (((List.range n).filter fun i => !b i).map f).isEmpty = (List.range n).all b := by
  rw [Bool.eq_iff_iff, List.isEmpty_iff, List.map_eq_nil_iff, List.filter_eq_nil_iff, List.all_eq_true]
  constructor
  · intro h i hi
    have := h i hi
    simpa using this
  · intro h i hi
    simp [h i hi]
end Sn

/-! ## The parts of a route: is_string, is_tuple_of_strings, is_choice, are_choices, is_row, are_parts -/
namespace Sn
open PySem PySem.Spec PyProof.Rows L2 TL
def signOk (c : Nat) : Bool := decide (32 ≤ c) && decide (c ≤ 126)
def chOk (z : Str) : Bool := decide (z.length = 1) && (tl z).all signOk
def dCh (k : Int) : PyData → Bool
  | .str z => chOk z
  | .int i => decide (0 ≤ i) && decide (i < k)
  | _ => false
def dStrs : PyData → Bool
  | .tuple ds => ds.all isS
  | _ => false
def dChs (k : Int) : PyData → Bool
  | .tuple ds => ds.all (dCh k)
  | _ => false
def dRow (k : Int) : PyData → Bool
  | .tuple [a, b, c] => isS a && (dStrs b && dChs k c)
  | _ => false
def dLen : PyData → Nat
  | .tuple ds => ds.length
  | _ => 0
def dRows : PyData → Bool
  | .tuple ds => (List.range ds.length).all fun i => dRow i (ds.getD i .none)
  | _ => false
def dLegs (k : Int) : PyData → Bool
  | .tuple ds => ds.all (dChs k)
  | _ => false
def dParts (s a r l : PyData) : Bool := dStrs s && decide (dLen s = 3) && dStrs a && dRows r && dLegs (dLen r) l
theorem iteDF {b : Bool} {p q : Prop} (h : b = false) (x : q) : if b = true then p else q := by rw [h]; exact iteF x
theorem iteDT {b : Bool} {p q : Prop} (h : b = true) (x : p) : if b = true then p else q := by rw [h]; exact iteT x
section
variable {P : Program} {w : World} {K : PySem.W.Frag} {mg : Str → Option Value} {base : Heap}
def spIsStr : Sp := fun vs H Q _ => ∃ (z : Str) (m : Int), vs = [.str z, .int m] ∧ z.length ≤ 1000 ∧ ∀ H', Same H H' → Q (.bl (decide ((z.length : Int) ≤ m) && (tl z).all signOk)) H'
theorem sign_le (c : Nat) : (!decide ((⟨#[c]⟩ : Str).cps.toList < (" " : Str).cps.toList)) = decide (32 ≤ c) := by
  have e : (" " : Str).cps.toList = [32] := by decide +kernel
  rw [e]
  show (!decide ([c] < [32])) = _
  by_cases h : 32 ≤ c
  · rw [decide_eq_true h, decide_eq_false (by simp [List.cons_lt_cons_iff]; omega)]; rfl
  · rw [decide_eq_false h, decide_eq_true (by simp [List.cons_lt_cons_iff]; omega)]; rfl
theorem sign_ge (c : Nat) : (!decide (("~" : Str).cps.toList < (⟨#[c]⟩ : Str).cps.toList)) = decide (c ≤ 126) := by
  have e : ("~" : Str).cps.toList = [126] := by decide +kernel
  rw [e]
  show (!decide ([126] < [c])) = _
  by_cases h : c ≤ 126
  · rw [decide_eq_true h, decide_eq_false (by simp [List.cons_lt_cons_iff]; omega)]; rfl
  · rw [decide_eq_false h, decide_eq_true (by simp [List.cons_lt_cons_iff]; omega)]; rfl
theorem ok_isStr (T : Txt K mg) : FnOk P w K mg base CX0 1 T.f_is_string T.fd_is_string ["value", "most"] spIsStr := by
  refine T.F_is_string.ok sc_is_string (fun vs H Q E h => ?_) (fun cdv A outer s H vs Q E hr h => ?_)
  · obtain ⟨z, m, rfl, _⟩ := h
    rfl
  · obtain ⟨z, m, rfl, hz, k⟩ := h
    refine ⟨_, (pss_one (ps_ret (pe_and (pe_callB (call_isiN (K := K)) (by rfl) T.z_isinstance (by decide +kernel) (pa_cons (pv 0) (pa_cons (pe_bltn (v := .ty "str") (by rfl) T.z_str (by decide +kernel) rfl) pa_nil))) (pe_and (pe_cmpR op_le (pe_callB (call_lenN (K := K)) (by rfl) T.z_len (by decide +kernel) (pa_cons (pv 0) pa_nil)) (pv 1) (nomark _)) (pe_one (pe_callB (cr_all rfl) (by rfl) T.z_all (by decide +kernel) (pa_cons (pe_lc (own := [("sign", 2)]) (g := gName 2) (by rfl) sc_is_string.nd (pi_str (pv 0)) (blkOk_by (own := [("sign", 2)]) (N := n_is_string) (sc := defScope s_is_string) (by decide +kernel)) (fun _ _ _ _ _ => (pg_name (i := 2) sc_is_string.nd rfl (Or.inl rfl))) (fun _ _ _ _ _ => pts_nil) (fun _ _ _ _ _ => (pe_chain op_le_str op_le_str pe_str (pv 2) pe_str))) pa_nil))))))), ?_⟩
    have hd : Dh H (.str z) (.str z) := .str z
    refine ⟨_, rfl, _, .ty "str", _, .type "str", _, rfl, .ty "str", hd.ty, kit_s, _, rfl, iteT ?_⟩
    refine ⟨_, rfl, _, z.length, rfl, ⟨Nat.le_of_lt (small1000 hz), rfl⟩, _, rfl, _, _, rfl, rfl, _, rfl, ?_⟩
    by_cases hm : (z.length : Int) ≤ m
    · rw [decide_eq_true hm]
      refine iteT ?_
      refine ⟨_, rfl, z, rfl, fun D hD => ?_⟩
      refine lc_out walk_str (fun i => .bl (signOk ((tl z).getD i 0))) (by exact hz) hD (fun _ _ => trivial) ?_ ?_
      · rintro i x H1 H2 Qg hi s1 ⟨rfl, c, hc, rfl⟩ kk
        have hc2 : (tl z)[i]? = some c := by simpa using hc
        refine kk _ _ (Same.refl _) rfl fun R hR => ?_
        have hR := hR H2 (Same.refl _)
        rw [getD_of hc2] at hR
        refine ⟨_, rfl, _, _, rfl, rfl, _, rfl, ?_⟩
        rw [sign_le]
        cases h1 : decide (32 ≤ c) with
        | true =>
          refine iteT ⟨_, _, rfl, rfl, ?_⟩
          rw [sign_ge]
          unfold signOk at hR
          rw [h1, Bool.true_and] at hR
          exact hR
        | false =>
          unfold signOk at hR
          rw [h1, Bool.false_and] at hR
          exact iteF hR
      · intro H1 s1 hl
        have e : (List.range z.cps.size).map (fun i => V.bl (signOk ((tl z).getD i 0))) = ((List.range z.cps.size).map fun i => signOk ((tl z).getD i 0)).map V.bl := by rw [List.map_map]; rfl
        rw [e] at hl
        refine ⟨D, _, rfl, .inl (.inl hl), ?_⟩
        have q := k H1 s1
        rw [decide_eq_true hm, Bool.true_and] at q
        have e2 : (((List.range z.cps.size).map fun i => signOk ((tl z).getD i 0)).all id) = (tl z).all signOk := by
          rw [List.all_map]
          have := all_range signOk 0 (tl z)
          rw [show (tl z).length = z.cps.size by simp] at this
          exact this
        show Q (.bl _) H1
        rw [e2]
        exact q
    · rw [decide_eq_false hm]
      have q := k H (Same.refl H)
      rw [decide_eq_false hm, Bool.false_and] at q
      exact iteF q
/-- a def that says whether a value is of a form -/
def spD (f : PyData → Bool) : Sp := fun vs H Q _ => ∃ (v : V) (d : PyData), vs = [v] ∧ Dh H v d ∧ okD 1000 20 d = true ∧ ∀ H', Same H H' → Q (.bl (f d)) H'
/-- .. of a form, a number besides -/
def spDK (f : Int → PyData → Bool) : Sp := fun vs H Q _ => ∃ (v : V) (d : PyData) (m : Int), vs = [v, .int m] ∧ Dh H v d ∧ okD 1000 20 d = true ∧ ∀ H', Same H H' → Q (.bl (f m d)) H'
theorem ok_in {n k : Nat} {ds : List PyData} (h : okD n k (.tuple ds) = true) : ds.length ≤ n ∧ ∀ x ∈ ds, okD n k x = true := by
  cases k with
  | zero => simp [okD] at h
  | succ k =>
    simp only [okD, Bool.and_eq_true, decide_eq_true_eq, List.all_eq_true] at h
    exact ⟨h.1, fun x hx => okD_mono (Nat.le_refl _) (by omega) (h.2 x hx)⟩
theorem ok_inL {n k : Nat} {ds : List PyData} (h : okD n k (.list ds) = true) : ds.length ≤ n ∧ ∀ x ∈ ds, okD n k x = true := by
  cases k with
  | zero => simp [okD] at h
  | succ k =>
    simp only [okD, Bool.and_eq_true, decide_eq_true_eq, List.all_eq_true] at h
    exact ⟨h.1, fun x hx => okD_mono (Nat.le_refl _) (by omega) (h.2 x hx)⟩
theorem bls (n : Nat) (b : Nat → Bool) : (List.range n).map (fun i => V.bl (b i)) = ((List.range n).map b).map V.bl := by rw [List.map_map]; rfl
theorem all_id (n : Nat) (b : Nat → Bool) : ((List.range n).map b).all id = (List.range n).all b := by rw [List.all_map]; rfl
theorem ok_strs (T : Txt K mg) : FnOk P w K mg base CX0 1 T.f_is_tuple_of_strings T.fd_is_tuple_of_strings ["value"] (spD dStrs) := by
  refine T.F_is_tuple_of_strings.ok sc_is_tuple_of_strings (fun vs H Q E h => ?_) (fun cdv A outer s H vs Q E hr h => ?_)
  · obtain ⟨v, d, rfl, _⟩ := h
    rfl
  · obtain ⟨v, d, rfl, hd, ho, k⟩ := h
    refine ⟨_, (pss_one (ps_ret (pe_and (pe_callB (call_isiN (K := K)) (by rfl) T.z_isinstance (by decide +kernel) (pa_cons (pv 0) (pa_cons (pe_bltn (v := .ty "tuple") (by rfl) T.z_tuple (by decide +kernel) rfl) pa_nil))) (pe_one (pe_callB (cr_all rfl) (by rfl) T.z_all (by decide +kernel) (pa_cons (pe_lc (own := [("part", 1)]) (g := gName 1) (by rfl) sc_is_tuple_of_strings.nd (pi_tup (pv 0)) (blkOk_by (own := [("part", 1)]) (N := n_is_tuple_of_strings) (sc := defScope s_is_tuple_of_strings) (by decide +kernel)) (fun _ _ _ _ _ => (pg_name (i := 1) sc_is_tuple_of_strings.nd rfl (Or.inl rfl))) (fun _ _ _ _ _ => pts_nil) (fun _ _ _ _ _ => (pe_callB (call_isiN (K := K)) (by rfl) T.z_isinstance (by decide +kernel) (pa_cons (pv 1) (pa_cons (pe_bltn (v := .ty "str") (by rfl) T.z_str (by decide +kernel) rfl) pa_nil))))) pa_nil)))))), ?_⟩
    refine ⟨_, rfl, _, .ty "tuple", _, .type "tuple", _, rfl, .ty "tuple", hd.ty, kit_t, _, rfl, ?_⟩
    have q0 := k H (Same.refl H)
    cases hd with
    | tup ha hall =>
      rename_i a xs ds
      obtain ⟨hl, hm⟩ := ok_in ho
      refine iteT ⟨_, rfl, a, rfl, ⟨_, .inl (.inl ha)⟩, fun D hD => ?_⟩
      refine lc_out (walk_tup (K := K) (a := a) (xs := xs)) (fun i => .bl (isS (ds.getD i .none))) (by rw [hall.len]; exact hl) hD (fun H1 s1 => .inl (.inl (s1 _ _ ha))) ?_ ?_
      · rintro i x H1 H2 Qg hi s1 ⟨rfl, hx⟩ kk
        obtain ⟨e, he, hde⟩ := hall.get hx
        refine kk _ _ (Same.refl _) rfl fun R hR => ?_
        have hR := hR H2 (Same.refl _)
        rw [getD_of he] at hR
        exact ⟨_, rfl, _, .ty "str", _, .type "str", _, rfl, .ty "str", (hde.same s1).ty, kit_s, hR⟩
      · intro H1 s1 hl1
        rw [bls] at hl1
        refine ⟨D, _, rfl, .inl (.inl hl1), ?_⟩
        have q := k H1 s1
        show Q (.bl _) H1
        rw [all_id, hall.len, all_range isS]
        exact q
    | _ => exact iteF q0
theorem str_empty {z : Str} (h : z.length = 0) : z = "" := by
  obtain ⟨⟨l⟩⟩ := z
  have : l = [] := List.length_eq_zero_iff.mp h
  subst this
  decide +kernel
theorem chOk_of {z : Str} (h : z ≠ "") : (decide ((z.length : Int) ≤ 1) && (tl z).all signOk) = chOk z := by
  have h0 : z.length ≠ 0 := fun e => h (str_empty e)
  unfold chOk
  congr 1
  exact decide_eq_decide.mpr ⟨fun _ => by omega, fun _ => by omega⟩
theorem ok_choice (T : Txt K mg) : FnOk P w K mg base CX0 2 T.f_is_choice T.fd_is_choice ["value", "most"] (spDK dCh) := by
  refine T.F_is_choice.ok sc_is_choice (fun vs H Q E h => ?_) (fun cdv A outer s H vs Q E hr h => ?_)
  · obtain ⟨v, d, m, rfl, _⟩ := h
    rfl
  · obtain ⟨v, d, m, rfl, hd, ho, k⟩ := h
    refine ⟨_, (pss_cons (ps_if (pt_val (pe_callB (call_isiN (K := K)) (by rfl) T.z_isinstance (by decide +kernel) (pa_cons (pv 0) (pa_cons (pe_bltn (v := .ty "str") (by rfl) T.z_str (by decide +kernel) rfl) pa_nil))))
        (pss_one (ps_ret (pe_and (pe_cmpR op_ne (pv 0) pe_str (nomark _)) (pe_one (pe_call (ok_isStr T) (hr.mono (by decide)) rfl T.g_is_string T.F_is_string.kp T.b_is_string .nil pass0 (pa_cons (pv 0) (pa_cons pe_int pa_nil)))))))
        pss_nil)
      (pss_one (ps_ret (pe_and (pe_callB (call_isiN (K := K)) (by rfl) T.z_isinstance (by decide +kernel) (pa_cons (pv 0) (pa_cons (pe_bltn (v := .ty "int") (by rfl) T.z_int (by decide +kernel) rfl) pa_nil))) (pe_and (pe_not (pe_callB (call_isiN (K := K)) (by rfl) T.z_isinstance (by decide +kernel) (pa_cons (pv 0) (pa_cons (pe_bltn (v := .ty "bool") (by rfl) T.z_bool (by decide +kernel) rfl) pa_nil)))) (pe_one (pe_chain op_le op_lt pe_int (pv 0) (pv 1)))))))), ?_⟩
    have q0 := k H (Same.refl H)
    refine ⟨_, rfl, _, .ty "str", _, .type "str", _, rfl, .ty "str", hd.ty, kit_s, _, rfl, ?_⟩
    cases hd with
    | str z =>
      refine iteT ⟨_, rfl, rfl, _, rfl, ?_⟩
      by_cases h : z = ""
      · subst h
        exact iteDF (by decide +kernel) q0
      · rw [decide_eq_false (show ¬ V.str z = V.str "" from fun e => h (by injection e))]
        refine iteT ⟨_, rfl, z, 1, rfl, ?_, fun H' s' => ?_⟩
        · simp only [okD, Bool.and_eq_true, decide_eq_true_eq] at ho
          exact ho.1
        · have q := k H' s'
          rw [chOk_of h]
          exact q
    | int i =>
      refine iteF ?_
      refine ⟨_, rfl, _, .ty "int", _, .type "int", _, rfl, .ty "int", (Dh.int (H := H) i).ty, kit_i, _, rfl, iteT ?_⟩
      refine ⟨_, rfl, _, .ty "bool", _, .type "bool", _, rfl, .ty "bool", (Dh.int (H := H) i).ty, kit_b, _, rfl, _, rfl, iteT ?_⟩
      refine ⟨_, rfl, _, _, rfl, rfl, _, rfl, ?_⟩
      have q1 : Q (.bl (decide (0 ≤ i) && decide (i < m))) H := q0
      cases h1 : decide (0 ≤ i) with
      | true =>
        rw [h1, Bool.true_and] at q1
        exact iteT ⟨_, rfl, _, _, rfl, rfl, q1⟩
      | false =>
        rw [h1, Bool.false_and] at q1
        exact iteF q1
    | bl b =>
      refine iteF ?_
      refine ⟨_, rfl, _, .ty "int", _, .type "int", _, rfl, .ty "int", (Dh.bl (H := H) b).ty, kit_i, _, rfl, iteT ?_⟩
      exact ⟨_, rfl, _, .ty "bool", _, .type "bool", _, rfl, .ty "bool", (Dh.bl (H := H) b).ty, kit_b, _, rfl, _, rfl, iteF q0⟩
    | non =>
      refine iteF ?_
      exact ⟨_, rfl, _, .ty "int", _, .type "int", _, rfl, .ty "int", (Dh.non (H := H)).ty, kit_i, _, rfl, iteF q0⟩
    | lst h a =>
      refine iteF ?_
      exact ⟨_, rfl, _, .ty "int", _, .type "int", _, rfl, .ty "int", (Dh.lst h a).ty, kit_i, _, rfl, iteF q0⟩
    | tup h a =>
      refine iteF ?_
      exact ⟨_, rfl, _, .ty "int", _, .type "int", _, rfl, .ty "int", (Dh.tup h a).ty, kit_i, _, rfl, iteF q0⟩
theorem ok_choices (T : Txt K mg) : FnOk P w K mg base CX0 3 T.f_are_choices T.fd_are_choices ["value", "most"] (spDK dChs) := by
  have GC : FnOk P w K mg base CX0 2 T.f_is_choice T.fd_is_choice ["value", "most"] (spDK dCh) := ok_choice T
  refine T.F_are_choices.ok sc_are_choices (fun vs H Q E h => ?_) (fun cdv A outer s H vs Q E hr h => ?_)
  · obtain ⟨v, d, m, rfl, _⟩ := h
    rfl
  · obtain ⟨v, d, m, rfl, hd, ho, k⟩ := h
    refine ⟨_, (pss_one (ps_ret (pe_and (pe_callB (call_isiN (K := K)) (by rfl) T.z_isinstance (by decide +kernel) (pa_cons (pv 0) (pa_cons (pe_bltn (v := .ty "tuple") (by rfl) T.z_tuple (by decide +kernel) rfl) pa_nil))) (pe_one (pe_callB (cr_all rfl) (by rfl) T.z_all (by decide +kernel) (pa_cons (pe_lc (own := [("choice", 2)]) (g := gName 2) (by rfl) sc_are_choices.nd (pi_tup (pv 0)) (blkOk_by (own := [("choice", 2)]) (N := n_are_choices) (sc := defScope s_are_choices) (by decide +kernel)) (fun _ _ _ _ _ => (pg_name (i := 2) sc_are_choices.nd rfl (Or.inl rfl))) (fun _ _ _ _ _ => pts_nil) (fun _ _ _ _ _ => (pe_call (ok_choice T) (hr.mono (by decide)) rfl T.g_is_choice T.F_is_choice.kp T.b_is_choice .nil pass0 (pa_cons (pv 2) (pa_cons (pv 1) pa_nil))))) pa_nil)))))), ?_⟩
    refine ⟨_, rfl, _, .ty "tuple", _, .type "tuple", _, rfl, .ty "tuple", hd.ty, kit_t, _, rfl, ?_⟩
    have q0 := k H (Same.refl H)
    cases hd with
    | tup ha hall =>
      rename_i a xs ds
      obtain ⟨hl, hm⟩ := ok_in ho
      refine iteT ⟨_, rfl, a, rfl, ⟨_, .inl (.inl ha)⟩, fun D hD => ?_⟩
      refine lc_out (walk_tup (K := K) (a := a) (xs := xs)) (fun i => .bl (dCh m (ds.getD i .none))) (by rw [hall.len]; exact hl) hD (fun H1 s1 => .inl (.inl (s1 _ _ ha))) ?_ ?_
      · rintro i x H1 H2 Qg hi s1 ⟨rfl, hx⟩ kk
        obtain ⟨e, he, hde⟩ := hall.get hx
        refine kk _ _ (Same.refl _) rfl fun R hR => ?_
        rw [getD_of he] at hR
        exact ⟨_, rfl, _, rfl, x, e, m, rfl, hde.same s1, hm e (List.mem_of_getElem? he), hR⟩
      · intro H1 s1 hl1
        rw [bls] at hl1
        refine ⟨D, _, rfl, .inl (.inl hl1), ?_⟩
        have q := k H1 s1
        show Q (.bl _) H1
        rw [all_id, hall.len, all_range (dCh m)]
        exact q
    | _ => exact iteF q0
theorem ok_row (T : Txt K mg) : FnOk P w K mg base CX0 4 T.f_is_row T.fd_is_row ["value", "k"] (spDK dRow) := by
  have GS : FnOk P w K mg base CX0 1 T.f_is_tuple_of_strings T.fd_is_tuple_of_strings ["value"] (spD dStrs) := ok_strs T
  have GC : FnOk P w K mg base CX0 3 T.f_are_choices T.fd_are_choices ["value", "most"] (spDK dChs) := ok_choices T
  refine T.F_is_row.ok sc_is_row (fun vs H Q E h => ?_) (fun cdv A outer s H vs Q E hr h => ?_)
  · obtain ⟨v, d, m, rfl, _⟩ := h
    rfl
  · obtain ⟨v, d, m, rfl, hd, ho, k⟩ := h
    refine ⟨_, (pss_cons (ps_if (PW.pt (pw_or (pt_not (pt_val (pe_callB (call_isiN (K := K)) (by rfl) T.z_isinstance (by decide +kernel) (pa_cons (pv 0) (pa_cons (pe_bltn (v := .ty "tuple") (by rfl) T.z_tuple (by decide +kernel) rfl) pa_nil))))) (pw_or (pt_cmpR op_ne (pe_callB (call_lenN (K := K)) (by rfl) T.z_len (by decide +kernel) (pa_cons (pv 0) pa_nil)) pe_int (nomark _)) (pw_or1 (pt_not (pt_val (pe_callB (call_isiN (K := K)) (by rfl) T.z_isinstance (by decide +kernel) (pa_cons (pe_ix (ix_tupK (K := K)) (pv 0) pe_int (fun _ _ => rfl)) (pa_cons (pe_bltn (v := .ty "str") (by rfl) T.z_str (by decide +kernel) rfl) pa_nil)))))))))
        (pss_one (ps_ret pe_bl))
        pss_nil)
      (pss_one (ps_ret (pe_and (pe_call (ok_strs T) (hr.mono (by decide)) rfl T.g_is_tuple_of_strings T.F_is_tuple_of_strings.kp T.b_is_tuple_of_strings .nil pass0 (pa_cons (pe_ix (ix_tupK (K := K)) (pv 0) pe_int (fun _ _ => rfl)) pa_nil)) (pe_one (pe_call (ok_choices T) (hr.mono (by decide)) rfl T.g_are_choices T.F_are_choices.kp T.b_are_choices .nil pass0 (pa_cons (pe_ix (ix_tupK (K := K)) (pv 0) pe_int (fun _ _ => rfl)) (pa_cons (pv 1) pa_nil)))))))), ?_⟩
    refine ⟨_, rfl, _, .ty "tuple", _, .type "tuple", _, rfl, .ty "tuple", hd.ty, kit_t, _, rfl, ?_⟩
    have q0 := k H (Same.refl H)
    cases hd with
    | tup ha hall =>
      rename_i a xs ds
      obtain ⟨hl, hm⟩ := ok_in ho
      have hL : ∀ n, n = xs.length → LenV K (.ref a) H n := fun n e => .inr ⟨_, .inl (.inl ha), e⟩
      refine iteF ⟨_, rfl, _, xs.length, rfl, hL _ rfl, rfl, _, rfl, ?_⟩
      match xs, ds, hall, hm, q0, k with
      | [v0, v1, v2], [d0, d1, d2], .cons h0 (.cons h1 (.cons h2 .nil)), hm, q0, k =>
        refine iteF ?_
        refine ⟨_, rfl, a, _, _, _, rfl, rfl, .inl (.inl ha), atI_nat (j := 0) rfl, _, .ty "str", _, .type "str", _, rfl, .ty "str", h0.ty, kit_s, _, rfl, ?_⟩
        have m1 := hm d1 (by simp)
        have m2 := hm d2 (by simp)
        cases e0 : isS d0 with
        | true =>
          refine iteF ?_
          refine ⟨_, rfl, a, _, _, _, rfl, rfl, .inl (.inl ha), atI_nat (j := 1) rfl, v1, d1, rfl, h1, m1, fun H1 s1 => ⟨_, rfl, ?_⟩⟩
          cases e1 : dStrs d1 with
          | true =>
            refine iteT ?_
            refine ⟨_, rfl, a, _, _, _, rfl, rfl, .inl (.inl (s1 _ _ ha)), atI_nat (j := 2) rfl, _, rfl, v2, d2, m, rfl, h2.same s1, m2, fun H2 s2 => ?_⟩
            have q := k H2 (s1.trans s2)
            simp only [dRow, e0, e1, Bool.true_and] at q
            exact q
          | false =>
            refine iteF ?_
            have q := k H1 s1
            simp only [dRow, e0, e1, Bool.true_and, Bool.false_and] at q
            exact q
        | false =>
          refine iteT ?_
          simp only [dRow, e0, Bool.false_and] at q0
          exact q0
      | [], [], .nil, _, q0, _ => exact iteT q0
      | [_], [_], .cons _ .nil, _, q0, _ => exact iteT q0
      | [_, _], [_, _], .cons _ (.cons _ .nil), _, q0, _ => exact iteT q0
      | _ :: _ :: _ :: _ :: r, _ :: _ :: _ :: _ :: _, .cons _ (.cons _ (.cons _ (.cons _ _))), _, q0, _ =>
        refine iteDT ?_ q0
        rw [Bool.not_eq_true', decide_eq_false_iff_not]
        intro e
        injection e with e
        simp only [List.length_cons] at e
        omega
    | _ => exact iteT q0
def spParts : Sp := fun vs H Q _ => ∃ (v1 v2 v3 v4 : V) (d1 d2 d3 d4 : PyData), vs = [v1, v2, v3, v4] ∧ Dh H v1 d1 ∧ Dh H v2 d2 ∧ Dh H v3 d3 ∧ Dh H v4 d4 ∧ okD 1000 20 d1 = true ∧ okD 1000 20 d2 = true ∧ okD 1000 20 d3 = true ∧ okD 1000 20 d4 = true ∧
  ∀ H', Same H H' → Q (.bl (dParts d1 d2 d3 d4)) H'
theorem dStrs_tup {d : PyData} (h : dStrs d = true) : ∃ ds, d = .tuple ds := by
  cases d with
  | tuple ds => exact ⟨ds, rfl⟩
  | _ => cases h
theorem ok_parts (T : Txt K mg) : FnOk P w K mg base CX0 5 T.f_are_parts T.fd_are_parts ["start", "arguments", "rows", "legs"] spParts := by
  have GS : FnOk P w K mg base CX0 1 T.f_is_tuple_of_strings T.fd_is_tuple_of_strings ["value"] (spD dStrs) := ok_strs T
  have GC : FnOk P w K mg base CX0 3 T.f_are_choices T.fd_are_choices ["value", "most"] (spDK dChs) := ok_choices T
  have GR : FnOk P w K mg base CX0 4 T.f_is_row T.fd_is_row ["value", "k"] (spDK dRow) := ok_row T
  refine T.F_are_parts.ok sc_are_parts (fun vs H Q E h => ?_) (fun cdv A outer s H vs Q E hr h => ?_)
  · obtain ⟨v1, v2, v3, v4, d1, d2, d3, d4, rfl, _⟩ := h
    rfl
  · obtain ⟨v1, v2, v3, v4, d1, d2, d3, d4, rfl, h1, h2, h3, h4, o1, o2, o3, o4, k⟩ := h
    refine ⟨_, (pss_cons (ps_if (PW.pt (pw_or (pt_not (pt_val (pe_call (ok_strs T) (hr.mono (by decide)) rfl T.g_is_tuple_of_strings T.F_is_tuple_of_strings.kp T.b_is_tuple_of_strings .nil pass0 (pa_cons (pv 0) pa_nil)))) (pw_or (pt_cmpR op_ne (pe_callB (call_lenN (K := K)) (by rfl) T.z_len (by decide +kernel) (pa_cons (pv 0) pa_nil)) pe_int (nomark _)) (pw_or1 (pt_not (pt_val (pe_call (ok_strs T) (hr.mono (by decide)) rfl T.g_is_tuple_of_strings T.F_is_tuple_of_strings.kp T.b_is_tuple_of_strings .nil pass0 (pa_cons (pv 1) pa_nil))))))))
        (pss_one (ps_ret pe_bl))
        pss_nil)
      (pss_cons (ps_if (PW.pt (pw_or (pt_not (pt_val (pe_callB (call_isiN (K := K)) (by rfl) T.z_isinstance (by decide +kernel) (pa_cons (pv 2) (pa_cons (pe_bltn (v := .ty "tuple") (by rfl) T.z_tuple (by decide +kernel) rfl) pa_nil))))) (pw_or1 (pt_not (pt_val (pe_callB (cr_all rfl) (by rfl) T.z_all (by decide +kernel) (pa_cons (pe_lc (own := [("k", 5), ("row", 6)]) (g := gTup K 2 (gCons (gName 5) (gCons (gName 6) gNil))) (by rfl) sc_are_parts.nd (pi_enumT (by rfl) T.z_enumerate (pa_cons (pv 2) pa_nil)) (blkOk_by (own := [("k", 5), ("row", 6)]) (N := n_are_parts) (sc := defScope s_are_parts) (by decide +kernel)) (fun _ _ _ _ _ => (pg_tupK (K := K) rfl (pgs_cons (pg_name (i := 5) sc_are_parts.nd rfl (Or.inl rfl)) (pgs_cons (pg_name (i := 6) sc_are_parts.nd rfl (Or.inl rfl)) pgs_nil)))) (fun _ _ _ _ _ => pts_nil) (fun _ _ _ _ _ => (pe_call (ok_row T) (hr.mono (by decide)) rfl T.g_is_row T.F_is_row.kp T.b_is_row .nil pass0 (pa_cons (pv 6) (pa_cons (pv 5) pa_nil))))) pa_nil)))))))
        (pss_one (ps_ret pe_bl))
        pss_nil)
      (pss_one (ps_ret (pe_and (pe_callB (call_isiN (K := K)) (by rfl) T.z_isinstance (by decide +kernel) (pa_cons (pv 3) (pa_cons (pe_bltn (v := .ty "tuple") (by rfl) T.z_tuple (by decide +kernel) rfl) pa_nil))) (pe_one (pe_callB (cr_all rfl) (by rfl) T.z_all (by decide +kernel) (pa_cons (pe_lc (own := [("leg", 4)]) (g := gName 4) (by rfl) sc_are_parts.nd (pi_tup (pv 3)) (blkOk_by (own := [("leg", 4)]) (N := n_are_parts) (sc := defScope s_are_parts) (by decide +kernel)) (fun _ _ _ _ _ => (pg_name (i := 4) sc_are_parts.nd rfl (Or.inl rfl))) (fun _ _ _ _ _ => pts_nil) (fun _ _ _ _ _ => (pe_call (ok_choices T) (hr.mono (by decide)) rfl T.g_are_choices T.F_are_choices.kp T.b_are_choices .nil pass0 (pa_cons (pv 4) (pa_cons (pe_callB (call_lenN (K := K)) (by rfl) T.z_len (by decide +kernel) (pa_cons (pv 2) pa_nil)) pa_nil))))) pa_nil)))))))), ?_⟩
    refine ⟨_, rfl, v1, d1, rfl, h1, o1, fun H1 s1 => ⟨_, rfl, ?_⟩⟩
    cases e1 : dStrs d1 with
    | false =>
      have q := k H1 s1
      simp only [dParts, e1, Bool.false_and] at q
      exact iteT q
    | true =>
    refine iteF ?_
    obtain ⟨ds1, rfl⟩ := dStrs_tup e1
    cases h1 with
    | tup ha1 hall1 =>
    rename_i a1 xs1
    refine ⟨_, rfl, _, xs1.length, rfl, .inr ⟨_, .inl (.inl (s1 _ _ ha1)), rfl⟩, rfl, _, rfl, ?_⟩
    by_cases l3 : ds1.length = 3
    case neg =>
      refine iteDT ?_ ?_
      · rw [Bool.not_eq_true', decide_eq_false_iff_not]
        intro e
        injection e with e
        rw [hall1.len] at e
        omega
      · have q := k H1 s1
        rw [show dParts (.tuple ds1) d2 d3 d4 = false by simp [dParts, dLen, l3]] at q
        exact iteT q
    case pos =>
    refine iteDF (by rw [hall1.len, l3]; rfl) ?_
    refine ⟨_, rfl, v2, d2, rfl, h2.same s1, o2, fun H2 s2 => ⟨_, rfl, ?_⟩⟩
    have S2 := s1.trans s2
    cases e2 : dStrs d2 with
    | false =>
      have q := k H2 S2
      simp only [dParts, e2, Bool.and_false, Bool.false_and] at q
      exact iteT q
    | true =>
    refine iteF ?_
    refine ⟨_, rfl, _, .ty "tuple", _, .type "tuple", _, rfl, .ty "tuple", (h3.same S2).ty, kit_t, _, rfl, ?_⟩
    cases e3 : isT d3 with
    | false =>
      have q := k H2 S2
      rw [show dParts (.tuple ds1) d2 d3 d4 = false by cases d3 <;> first | (cases e3; done) | simp [dParts, dRows]] at q
      exact iteT q
    | true =>
    refine iteF ?_
    have h3' := h3.same S2
    cases h3 with
    | non => cases e3
    | bl b => cases e3
    | int i => cases e3
    | str z => cases e3
    | lst h a => cases e3
    | tup ha3 hall3 =>
    rename_i a3 xs3 ds3
    obtain ⟨hl3, hm3⟩ := ok_in o3
    refine ⟨_, rfl, a3, xs3, rfl, .inl (.inl (S2 _ _ ha3)), fun D hD => ?_⟩
    refine lc_out (walk_enumT (K := K) (a := a3) (xs := xs3)) (fun i => .bl (dRow i (ds3.getD i .none))) (by rw [hall3.len]; exact hl3) hD (fun H1 s1 => .inl (.inl (s1 _ _ (S2 _ _ ha3)))) ?_ ?_
    · rintro i x H3 H4 Qg hi s3 ⟨tt, x1, x2, rfl, htt, rfl, e4, e5⟩ kk
      cases e4
      obtain ⟨e, he, hde⟩ := hall3.get e5
      have st := same_new (o := .tup [.int (i : Nat), x2]) htt
      refine ⟨tt, _, rfl, .inl (.inl upd_same), rfl, _, _, rfl, _, _, rfl, rfl, ?_⟩
      refine kk _ _ st rfl fun R hR => ?_
      rw [getD_of he] at hR
      exact ⟨_, rfl, _, rfl, x2, e, i, rfl, hde.same ((S2.trans s3).trans st), hm3 e (List.mem_of_getElem? he), hR⟩
    · intro H3 s3 hl
      rw [bls] at hl
      refine ⟨D, _, rfl, .inl (.inl hl), _, rfl, ?_⟩
      have eR : (((List.range xs3.length).map fun i => dRow (i : Nat) (ds3.getD i .none)).all id) = dRows (.tuple ds3) := by
        rw [all_id, hall3.len]; rfl
      rw [eR]
      have S3 := S2.trans s3
      cases e3 : dRows (.tuple ds3) with
      | false =>
        have q := k H3 S3
        rw [show dParts (.tuple ds1) d2 (.tuple ds3) d4 = false by simp [dParts, e3]] at q
        exact iteT q
      | true =>
        refine iteF ?_
        have eQ : dParts (.tuple ds1) d2 (.tuple ds3) d4 = dLegs ds3.length d4 := by simp [dParts, dLen, e1, e2, e3, l3]
        rw [eQ] at k
        refine ⟨_, rfl, _, .ty "tuple", _, .type "tuple", _, rfl, .ty "tuple", (h4.same S3).ty, kit_t, _, rfl, ?_⟩
        have q0 := k H3 S3
        cases h4 with
        | tup ha4 hall4 =>
          rename_i a4 xs4 ds4
          obtain ⟨hl4, hm4⟩ := ok_in o4
          refine iteT ⟨_, rfl, a4, rfl, ⟨_, .inl (.inl (S3 _ _ ha4))⟩, fun B hB => ?_⟩
          refine lc_out (walk_tup (K := K) (a := a4) (xs := xs4)) (fun i => .bl (dChs ds3.length (ds4.getD i .none))) (by rw [hall4.len]; exact hl4) hB (fun H1 s1 => .inl (.inl (s1 _ _ (S3 _ _ ha4)))) ?_ ?_
          · rintro i x H5 H6 Qg hi s5 ⟨rfl, hx⟩ kk
            obtain ⟨e, he, hde⟩ := hall4.get hx
            refine kk _ _ (Same.refl _) rfl fun R hR => ?_
            rw [getD_of he] at hR
            exact ⟨_, rfl, _, rfl, _, xs3.length, rfl, .inr ⟨_, .inl (.inl ((S3.trans s5) _ _ ha3)), rfl⟩, x, e, _, rfl, hde.same (S3.trans s5), hm4 e (List.mem_of_getElem? he), by rw [hall3.len]; exact hR⟩
          · intro H5 s5 hl5
            rw [bls] at hl5
            refine ⟨B, _, rfl, .inl (.inl hl5), ?_⟩
            have q := k H5 (S3.trans s5)
            show Q (.bl _) H5
            rw [all_id, hall4.len, all_range (dChs ds3.length)]
            exact q
        | _ => exact iteF q0
end
end Sn

/-! ## Data that stays while one draws -/
namespace Sn
open PySem PySem.Spec PyProof.Rows L2
/-- v is the data dd, whatever is drawn -/
def Sd (d g : Addr) (H : Hp) (v : V) (dd : PyData) : Prop := ∀ H', Mv d g H H' → Dh H' v dd
def SdA (d g : Addr) (H : Hp) (vs : List V) (ds : List PyData) : Prop := ∀ H', Mv d g H H' → DhAll H' vs ds
section
variable {d g c : Addr} {H H' : Hp} {m : Nat} {v : V} {vs : List V} {dd : PyData} {ds : List PyData} {K : PySem.W.Frag}
theorem Sd.mv (h : Sd d g H v dd) (m : Mv d g H H') : Sd d g H' v dd := fun H2 m2 => h H2 (m.trans m2)
theorem Sd.same (h : Sd d g H v dd) (s : Same H H') : Sd d g H' v dd := h.mv (Mv.same s)
theorem Sd.at (h : Sd d g H v dd) : Dh H v dd := h H (Mv.refl _ _ _)
theorem SdA.mv (h : SdA d g H vs ds) (m : Mv d g H H') : SdA d g H' vs ds := fun H2 m2 => h H2 (m.trans m2)
theorem SdA.same (h : SdA d g H vs ds) (s : Same H H') : SdA d g H' vs ds := h.mv (Mv.same s)
theorem SdA.at (h : SdA d g H vs ds) : DhAll H vs ds := h H (Mv.refl _ _ _)
theorem SdA.nil : SdA d g H [] [] := fun _ _ => .nil
theorem SdA.cons (h : Sd d g H v dd) (a : SdA d g H vs ds) : SdA d g H (v :: vs) (dd :: ds) := fun H' m => .cons (h H' m) (a H' m)
theorem Sd.non : Sd d g H .non .none := fun _ _ => .non
theorem Sd.bl (b : Bool) : Sd d g H (.bl b) (.bool b) := fun _ _ => .bl b
theorem Sd.int (i : Int) : Sd d g H (.int i) (.int i) := fun _ _ => .int i
theorem Sd.str (z : Str) : Sd d g H (.str z) (.str z) := fun _ _ => .str z
theorem Sd.tup {p : Addr} (D : Dr H d g c m) (hp : H p = none) (a : SdA d g H vs ds) : Sd d g (upd H p (.tup vs)) (.ref p) (.tuple ds) := fun H' mv => by
  have n := dr_new D hp
  exact .tup (mv _ _ n.1 n.2.1 upd_same) (a H' ((Mv.same (same_new hp)).trans mv))
theorem Sd.lst {p : Addr} (D : Dr H d g c m) (hp : H p = none) (a : SdA d g H vs ds) : Sd d g (upd H p (.lst vs)) (.ref p) (.list ds) := fun H' mv => by
  have n := dr_new D hp
  exact .lst (mv _ _ n.1 n.2.1 upd_same) (a H' ((Mv.same (same_new hp)).trans mv))
theorem Sd.tupAt (D : Dr H d g c m) (h : Sd d g H v (.tuple ds)) : ∃ a xs, v = .ref a ∧ H a = some (.tup xs) ∧ SdA d g H xs ds := by
  have h0 := h.at
  cases h0 with
  | tup ha hall =>
    rename_i a xs
    obtain ⟨⟨l, k, _, _, hd⟩, ⟨gs, hg⟩, _, _⟩ := D
    refine ⟨a, xs, rfl, ha, fun H' mv => ?_⟩
    have e := mv _ _ (fun z => by rw [z, hd] at ha; cases ha) (fun z => by rw [z, hg] at ha; cases ha) ha
    have h1 := h H' mv
    cases h1 with
    | tup hb hall' =>
      rw [e] at hb
      cases hb
      exact hall'
theorem SdA.len (a : SdA d g H vs ds) : vs.length = ds.length := a.at.len
theorem SdA.app {ws : List V} {es : List PyData} (a : SdA d g H vs ds) (b : SdA d g H ws es) : SdA d g H (vs ++ ws) (ds ++ es) := fun H' m => (a H' m).app (b H' m)
theorem SdA.take (a : SdA d g H vs ds) (n : Nat) : SdA d g H (vs.take n) (ds.take n) := fun H' m => (a H' m).take n
theorem SdA.drop (a : SdA d g H vs ds) (n : Nat) : SdA d g H (vs.drop n) (ds.drop n) := fun H' m => (a H' m).drop n
theorem SdA.get (a : SdA d g H vs ds) {i : Nat} (h : vs[i]? = some v) : ∃ dd, ds[i]? = some dd ∧ Sd d g H v dd := by
  obtain ⟨dd, e, q⟩ := a.at.get h
  refine ⟨dd, e, fun H' m => ?_⟩
  obtain ⟨d2, e2, q2⟩ := (a H' m).get h
  rw [e] at e2
  cases e2
  exact q2
theorem SdA.get2 (a : SdA d g H vs ds) {i : Nat} (h : i < ds.length) : ∃ v dd, vs[i]? = some v ∧ ds[i]? = some dd ∧ Sd d g H v dd := by
  have h1 : i < vs.length := by rw [a.len]; exact h
  obtain ⟨dd, e, q⟩ := a.get (List.getElem?_eq_getElem h1)
  exact ⟨_, dd, List.getElem?_eq_getElem h1, e, q⟩
/-- a cut of data -/
def cutD (ds : List PyData) (lo hi : Option Int) : List PyData := (ds.drop (HT.sIx ds.length 0 lo)).take (HT.sIx ds.length ds.length hi - HT.sIx ds.length 0 lo)
theorem SdA.cut (a : SdA d g H vs ds) (lo hi : Option Int) : SdA d g H (cutV vs lo hi) (cutD ds lo hi) := by
  unfold cutV cutD
  rw [a.len]
  exact (a.drop _).take _
theorem cut_whole {ds : List PyData} {lo hi : Option Int} (h : HT.sIx ds.length 0 lo = 0 ∧ HT.sIx ds.length ds.length hi = ds.length) : cutD ds lo hi = ds := by
  unfold cutD
  rw [h.1, h.2]
  simp
/-- t[lo:hi] -/
theorem slA_sd {a : Addr} {lo hi : Option Int} {Q : VK} (D : Dr H d g c m) (h : Sd d g H (.ref a) (.tuple ds)) (k : ∀ p H', Same H H' → Sd d g H' (.ref p) (.tuple (cutD ds lo hi)) → Q (.ref p) H') : rSlA K (.ref a) lo hi H Q := by
  obtain ⟨a', xs, e, ha, hs⟩ := h.tupAt D
  cases e
  refine ⟨a, xs, rfl, .inl (.inl ha), fun w => ?_, fun _ p hp => ?_⟩
  · rw [hs.len] at w
    refine k a H (Same.refl _) ?_
    rw [cut_whole w]
    exact h
  · exact k p _ (same_new hp) (Sd.tup D hp (hs.cut lo hi))
/-- s + t -/
theorem catA_sd {a b : Addr} {es : List PyData} {Q : VK} (D : Dr H d g c m) (h : Sd d g H (.ref a) (.tuple ds)) (h2 : Sd d g H (.ref b) (.tuple es)) (hl : ds.length + es.length ≤ 1000)
    (k : ∀ p H', Same H H' → Sd d g H' (.ref p) (.tuple (ds ++ es)) → Q (.ref p) H') : rCatA K (.ref a) (.ref b) H Q := by
  obtain ⟨a', xs, e, ha, hs⟩ := h.tupAt D
  cases e
  obtain ⟨b', ys, e, hb, ht⟩ := h2.tupAt D
  cases e
  refine ⟨a, b, xs, ys, rfl, rfl, .inl (.inl ha), .inl (.inl hb), ?_, fun e => ?_, fun _ e => ?_, fun _ _ p hp => ?_⟩
  · rw [hs.len, ht.len]
    exact Nat.le_of_lt (small1000 hl)
  · refine k b H (Same.refl _) ?_
    have : ds = [] := List.length_eq_zero_iff.mp (by rw [← hs.len, e]; rfl)
    rw [this, List.nil_append]
    exact h2
  · refine k a H (Same.refl _) ?_
    have : es = [] := List.length_eq_zero_iff.mp (by rw [← ht.len, e]; rfl)
    rw [this, List.append_nil]
    exact h
  · exact k p _ (same_new hp) (Sd.tup D hp (hs.app ht))
end
/-! xs == [], xs != [], whatever xs holds -/
section
variable {X : Cx}
def rNil (neg : Bool) (K : PySem.W.Frag) : R2 := fun x y H Q => ∃ a b xs, x = .ref a ∧ y = .ref b ∧ SqL K H a xs ∧ SqL K H b [] ∧ Q (.bl (if neg then !xs.isEmpty else xs.isEmpty)) H
theorem op_eqNilH {K : PySem.W.Frag} (hu : X.A.units + 64 < cLine) (hK : X.K = K := by rfl) : OpR X (compareOp .Eq) (rNil false K) := by
  subst hK
  intro pins s σ H x y v u Q I rx ry h
  obtain ⟨a, b, xs, rfl, rfl, ha, hb, q⟩ := h
  cases xs with
  | nil => exact op_eqD hu pins s σ H _ _ v u Q I rx ry ⟨_, _, .lst ha .nil, .lst hb .nil, rfl, rfl, q⟩
  | cons z r =>
    cases rx
    cases ry
    obtain ⟨its, rv, pl, _⟩ := I.list ha
    obtain ⟨jts, rw', pl', _⟩ := I.list hb
    have e1 := rv.length
    have e2 := rw'.length
    refine PySem.SeqAt.RcAt.lists_lengths pl.isList pl'.isList ?_ (by omega) _ _ _ _ ⟨.bl false, H, I, rfl, q⟩
    simp only [List.length_cons, List.length_nil] at e1 e2
    rw [List.size_toArray, List.size_toArray, ← e1, ← e2]
    simp
theorem op_neNilH {K : PySem.W.Frag} (hu : X.A.units + 64 < cLine) (hK : X.K = K := by rfl) : OpR X (compareOp .NotEq) (rNil true K) := by
  subst hK
  intro pins s σ H x y v u Q I rx ry h
  obtain ⟨a, b, xs, rfl, rfl, ha, hb, q⟩ := h
  cases xs with
  | nil => exact op_neD hu pins s σ H _ _ v u Q I rx ry ⟨_, _, .lst ha .nil, .lst hb .nil, rfl, rfl, q⟩
  | cons z r =>
    cases rx
    cases ry
    obtain ⟨its, rv, pl, _⟩ := I.list ha
    obtain ⟨jts, rw', pl', _⟩ := I.list hb
    have e1 := rv.length
    have e2 := rw'.length
    refine SeqAt.RcNeAt.lists_lengths pl.isList pl'.isList ?_ (by omega) _ _ _ _ ⟨.bl true, H, I, rfl, q⟩
    simp only [List.length_cons, List.length_nil] at e1 e2
    rw [List.size_toArray, List.size_toArray, ← e1, ← e2]
    simp
end
end Sn

/-! ## law_k42: the law's own look at the parts -/
namespace Sn
open PySem PySem.Spec PyProof.Rows L2 TL
section
variable {P : Program} {w : World} {K : PySem.W.Frag} {mg : Str → Option Value} {base : Heap}
theorem ok_lchoice (T : Txt K mg) : FnOk P w K mg base CX0 1 T.f_law_is_choice T.fd_law_is_choice ["_law_value", "_law_k"] (spDK dCh) := by
  refine T.F_law_is_choice.ok sc_law_is_choice (fun vs H Q E h => ?_) (fun cdv A outer s H vs Q E hr h => ?_)
  · obtain ⟨v, d, m, rfl, _⟩ := h
    rfl
  · obtain ⟨v, d, m, rfl, hd, ho, k⟩ := h
    refine ⟨_, (pss_cons (ps_if (pt_val (pe_callB (call_isiN (K := K)) (by rfl) T.z_isinstance (by decide +kernel) (pa_cons (pv 0) (pa_cons (pe_bltn (v := .ty "str") (by rfl) T.z_str (by decide +kernel) rfl) pa_nil))))
        (pss_one (ps_ret (pe_and (pe_cmpR op_eq (pe_callB (call_lenN (K := K)) (by rfl) T.z_len (by decide +kernel) (pa_cons (pv 0) pa_nil)) pe_int (nomark _)) (pe_one (pe_chain op_le_str op_le_str pe_str (pv 0) pe_str)))))
        pss_nil)
      (pss_one (ps_ret (pe_and (pe_callB (call_isiN (K := K)) (by rfl) T.z_isinstance (by decide +kernel) (pa_cons (pv 0) (pa_cons (pe_bltn (v := .ty "int") (by rfl) T.z_int (by decide +kernel) rfl) pa_nil))) (pe_and (pe_not (pe_callB (call_isiN (K := K)) (by rfl) T.z_isinstance (by decide +kernel) (pa_cons (pv 0) (pa_cons (pe_bltn (v := .ty "bool") (by rfl) T.z_bool (by decide +kernel) rfl) pa_nil)))) (pe_one (pe_chain op_le op_lt pe_int (pv 0) (pv 1)))))))), ?_⟩
    have q0 := k H (Same.refl H)
    refine ⟨_, rfl, _, .ty "str", _, .type "str", _, rfl, .ty "str", hd.ty, kit_s, _, rfl, ?_⟩
    cases hd with
    | str z =>
      have hz : z.length ≤ 1000 := by
        simp only [okD, Bool.and_eq_true, decide_eq_true_eq] at ho
        exact ho.1
      refine iteT ⟨_, rfl, _, z.length, rfl, ⟨Nat.le_of_lt (small1000 hz), rfl⟩, rfl, _, rfl, ?_⟩
      by_cases h : z.length = 1
      · obtain ⟨⟨l⟩⟩ := z
        match l, h with
        | [c], _ =>
        refine iteT ⟨_, rfl, _, _, rfl, rfl, _, rfl, ?_⟩
        have q1 : Q (.bl (signOk c)) H := by
          have e : dCh m (.str ⟨#[c]⟩) = signOk c := by
            show (decide ((⟨#[c]⟩ : Str).length = 1) && [c].all signOk) = signOk c
            simp [Str.length]
          rw [← e]; exact q0
        show if (!decide ((⟨#[c]⟩ : Str).cps.toList < (" " : Str).cps.toList)) = true then _ else _
        rw [sign_le]
        unfold signOk at q1
        cases h1 : decide (32 ≤ c) with
        | true =>
          rw [h1, Bool.true_and] at q1
          refine iteT ⟨_, _, rfl, rfl, ?_⟩
          show Q (.bl (!decide (("~" : Str).cps.toList < (⟨#[c]⟩ : Str).cps.toList))) H
          rw [sign_ge]
          exact q1
        | false =>
          rw [h1, Bool.false_and] at q1
          exact iteF q1
      · refine iteDF (decide_eq_false fun e => h (by injection e with e; omega)) ?_
        have e : dCh m (.str z) = false := by simp [dCh, chOk, h]
        rw [e] at q0
        exact q0
    | int i =>
      refine iteF ?_
      refine ⟨_, rfl, _, .ty "int", _, .type "int", _, rfl, .ty "int", (Dh.int (H := H) i).ty, kit_i, _, rfl, iteT ?_⟩
      refine ⟨_, rfl, _, .ty "bool", _, .type "bool", _, rfl, .ty "bool", (Dh.int (H := H) i).ty, kit_b, _, rfl, _, rfl, iteT ?_⟩
      refine ⟨_, rfl, _, _, rfl, rfl, _, rfl, ?_⟩
      have q1 : Q (.bl (decide (0 ≤ i) && decide (i < m))) H := q0
      cases h1 : decide (0 ≤ i) with
      | true =>
        rw [h1, Bool.true_and] at q1
        exact iteT ⟨_, rfl, _, _, rfl, rfl, q1⟩
      | false =>
        rw [h1, Bool.false_and] at q1
        exact iteF q1
    | bl b =>
      refine iteF ?_
      refine ⟨_, rfl, _, .ty "int", _, .type "int", _, rfl, .ty "int", (Dh.bl (H := H) b).ty, kit_i, _, rfl, iteT ?_⟩
      exact ⟨_, rfl, _, .ty "bool", _, .type "bool", _, rfl, .ty "bool", (Dh.bl (H := H) b).ty, kit_b, _, rfl, _, rfl, iteF q0⟩
    | non =>
      refine iteF ?_
      exact ⟨_, rfl, _, .ty "int", _, .type "int", _, rfl, .ty "int", (Dh.non (H := H)).ty, kit_i, _, rfl, iteF q0⟩
    | lst h a =>
      refine iteF ?_
      exact ⟨_, rfl, _, .ty "int", _, .type "int", _, rfl, .ty "int", (Dh.lst h a).ty, kit_i, _, rfl, iteF q0⟩
    | tup h a =>
      refine iteF ?_
      exact ⟨_, rfl, _, .ty "int", _, .type "int", _, rfl, .ty "int", (Dh.tup h a).ty, kit_i, _, rfl, iteF q0⟩
theorem ok_lstrs (T : Txt K mg) : FnOk P w K mg base CX0 1 T.f_law_are_strings T.fd_law_are_strings ["_law_value"] (spD dStrs) := by
  refine T.F_law_are_strings.ok sc_law_are_strings (fun vs H Q E h => ?_) (fun cdv A outer s H vs Q E hr h => ?_)
  · obtain ⟨v, d, rfl, _⟩ := h
    rfl
  · obtain ⟨v, d, rfl, hd, ho, k⟩ := h
    refine ⟨_, (pss_one (ps_ret (pe_and (pe_callB (call_isiN (K := K)) (by rfl) T.z_isinstance (by decide +kernel) (pa_cons (pv 0) (pa_cons (pe_bltn (v := .ty "tuple") (by rfl) T.z_tuple (by decide +kernel) rfl) pa_nil))) (pe_one (pe_cmpR (op_eqNilH (K := K) hr.units) (pe_lc (own := [("_law_one", 1)]) (g := gName 1) (by rfl) sc_law_are_strings.nd (pi_tup (pv 0)) (blkOk_by (own := [("_law_one", 1)]) (N := n_law_are_strings) (sc := defScope s_law_are_strings) (by decide +kernel)) (fun _ _ _ _ _ => (pg_name (i := 1) sc_law_are_strings.nd rfl (Or.inl rfl))) (fun _ _ _ _ _ => (pts_one (pt_not (pt_val (pe_callB (call_isiN (K := K)) (by rfl) T.z_isinstance (by decide +kernel) (pa_cons (pv 1) (pa_cons (pe_bltn (v := .ty "str") (by rfl) T.z_str (by decide +kernel) rfl) pa_nil))))))) (fun _ _ _ _ _ => (pv 1))) (pe_lst pa_nil) (nomark _)))))), ?_⟩
    refine ⟨_, rfl, _, .ty "tuple", _, .type "tuple", _, rfl, .ty "tuple", hd.ty, kit_t, _, rfl, ?_⟩
    have q0 := k H (Same.refl H)
    cases hd with
    | tup ha hall =>
      rename_i a xs ds
      obtain ⟨hl, hm⟩ := ok_in ho
      refine iteT ⟨_, rfl, a, rfl, ⟨_, .inl (.inl ha)⟩, fun D hD => ?_⟩
      refine lc_outF (walk_tup (K := K) (a := a) (xs := xs)) (fun i => !isS (ds.getD i .none)) (fun i => xs.getD i .non) (by rw [hall.len]; exact hl) hD (fun H1 s1 => .inl (.inl (s1 _ _ ha))) ?_ ?_
      · rintro i x H1 H2 Qg hi s1 ⟨rfl, hx⟩ kk
        obtain ⟨e, he, hde⟩ := hall.get hx
        refine kk _ _ (Same.refl _) rfl (fun H3 R hR => ⟨_, rfl, by rw [getD_of hx] at hR; exact hR⟩) fun R hR => ?_
        have hR := hR H2 (Same.refl _)
        rw [getD_of he] at hR
        exact ⟨_, rfl, _, .ty "str", _, .type "str", _, rfl, .ty "str", (hde.same s1).ty, kit_s, _, rfl, hR⟩
      · intro H1 s1 hl1
        refine ⟨(by show 0 ≤ sizeLine; decide), fun z hz => ?_⟩
        have sz := same_new (o := .lst []) hz
        refine ⟨D, z, _, rfl, rfl, .inl (.inl (sz _ _ hl1)), .inl (.inl upd_same), ?_⟩
        have q := k _ (s1.trans sz)
        show Q (.bl _) _
        rw [if_neg (by decide), filter_nil, hall.len, all_range isS]
        exact q
    | _ => exact iteF q0
theorem ok_lchoices (T : Txt K mg) : FnOk P w K mg base CX0 2 T.f_law_are_choices T.fd_law_are_choices ["_law_value", "_law_k"] (spDK dChs) := by
  have GC : FnOk P w K mg base CX0 1 T.f_law_is_choice T.fd_law_is_choice ["_law_value", "_law_k"] (spDK dCh) := ok_lchoice T
  refine T.F_law_are_choices.ok sc_law_are_choices (fun vs H Q E h => ?_) (fun cdv A outer s H vs Q E hr h => ?_)
  · obtain ⟨v, d, m, rfl, _⟩ := h
    rfl
  · obtain ⟨v, d, m, rfl, hd, ho, k⟩ := h
    refine ⟨_, (pss_one (ps_ret (pe_and (pe_callB (call_isiN (K := K)) (by rfl) T.z_isinstance (by decide +kernel) (pa_cons (pv 0) (pa_cons (pe_bltn (v := .ty "tuple") (by rfl) T.z_tuple (by decide +kernel) rfl) pa_nil))) (pe_one (pe_cmpR (op_eqNilH (K := K) hr.units) (pe_lc (own := [("_law_one", 2)]) (g := gName 2) (by rfl) sc_law_are_choices.nd (pi_tup (pv 0)) (blkOk_by (own := [("_law_one", 2)]) (N := n_law_are_choices) (sc := defScope s_law_are_choices) (by decide +kernel)) (fun _ _ _ _ _ => (pg_name (i := 2) sc_law_are_choices.nd rfl (Or.inl rfl))) (fun _ _ _ _ _ => (pts_one (pt_not (pt_val (pe_call (ok_lchoice T) (hr.mono (by decide)) rfl T.g_law_is_choice T.F_law_is_choice.kp T.b_law_is_choice .nil pass0 (pa_cons (pv 2) (pa_cons (pv 1) pa_nil))))))) (fun _ _ _ _ _ => (pv 2))) (pe_lst pa_nil) (nomark _)))))), ?_⟩
    refine ⟨_, rfl, _, .ty "tuple", _, .type "tuple", _, rfl, .ty "tuple", hd.ty, kit_t, _, rfl, ?_⟩
    have q0 := k H (Same.refl H)
    cases hd with
    | tup ha hall =>
      rename_i a xs ds
      obtain ⟨hl, hm⟩ := ok_in ho
      refine iteT ⟨_, rfl, a, rfl, ⟨_, .inl (.inl ha)⟩, fun D hD => ?_⟩
      refine lc_outF (walk_tup (K := K) (a := a) (xs := xs)) (fun i => !dCh m (ds.getD i .none)) (fun i => xs.getD i .non) (by rw [hall.len]; exact hl) hD (fun H1 s1 => .inl (.inl (s1 _ _ ha))) ?_ ?_
      · rintro i x H1 H2 Qg hi s1 ⟨rfl, hx⟩ kk
        obtain ⟨e, he, hde⟩ := hall.get hx
        refine kk _ _ (Same.refl _) rfl (fun H3 R hR => ⟨_, rfl, by rw [getD_of hx] at hR; exact hR⟩) fun R hR => ?_
        rw [getD_of he] at hR
        exact ⟨_, rfl, _, rfl, x, e, m, rfl, hde.same s1, hm e (List.mem_of_getElem? he), fun H4 s4 => ⟨_, rfl, hR H4 s4⟩⟩
      · intro H1 s1 hl1
        refine ⟨(by show 0 ≤ sizeLine; decide), fun z hz => ?_⟩
        have sz := same_new (o := .lst []) hz
        refine ⟨D, z, _, rfl, rfl, .inl (.inl (sz _ _ hl1)), .inl (.inl upd_same), ?_⟩
        have q := k _ (s1.trans sz)
        show Q (.bl _) _
        rw [if_neg (by decide), filter_nil, hall.len, all_range (dCh m)]
        exact q
    | _ => exact iteF q0
theorem ok_lrow (T : Txt K mg) : FnOk P w K mg base CX0 3 T.f_law_is_row T.fd_law_is_row ["_law_value", "_law_k"] (spDK dRow) := by
  have GS : FnOk P w K mg base CX0 1 T.f_law_are_strings T.fd_law_are_strings ["_law_value"] (spD dStrs) := ok_lstrs T
  have GC : FnOk P w K mg base CX0 2 T.f_law_are_choices T.fd_law_are_choices ["_law_value", "_law_k"] (spDK dChs) := ok_lchoices T
  refine T.F_law_is_row.ok sc_law_is_row (fun vs H Q E h => ?_) (fun cdv A outer s H vs Q E hr h => ?_)
  · obtain ⟨v, d, m, rfl, _⟩ := h
    rfl
  · obtain ⟨v, d, m, rfl, hd, ho, k⟩ := h
    refine ⟨_, (pss_cons (ps_if (PW.pt (pw_or (pt_not (pt_val (pe_callB (call_isiN (K := K)) (by rfl) T.z_isinstance (by decide +kernel) (pa_cons (pv 0) (pa_cons (pe_bltn (v := .ty "tuple") (by rfl) T.z_tuple (by decide +kernel) rfl) pa_nil))))) (pw_or (pt_cmpR op_ne (pe_callB (call_lenN (K := K)) (by rfl) T.z_len (by decide +kernel) (pa_cons (pv 0) pa_nil)) pe_int (nomark _)) (pw_or1 (pt_not (pt_val (pe_callB (call_isiN (K := K)) (by rfl) T.z_isinstance (by decide +kernel) (pa_cons (pe_ix (ix_tupK (K := K)) (pv 0) pe_int (fun _ _ => rfl)) (pa_cons (pe_bltn (v := .ty "str") (by rfl) T.z_str (by decide +kernel) rfl) pa_nil)))))))))
        (pss_one (ps_ret pe_bl))
        pss_nil)
      (pss_one (ps_ret (pe_and (pe_call (ok_lstrs T) (hr.mono (by decide)) rfl T.g_law_are_strings T.F_law_are_strings.kp T.b_law_are_strings .nil pass0 (pa_cons (pe_ix (ix_tupK (K := K)) (pv 0) pe_int (fun _ _ => rfl)) pa_nil)) (pe_one (pe_call (ok_lchoices T) (hr.mono (by decide)) rfl T.g_law_are_choices T.F_law_are_choices.kp T.b_law_are_choices .nil pass0 (pa_cons (pe_ix (ix_tupK (K := K)) (pv 0) pe_int (fun _ _ => rfl)) (pa_cons (pv 1) pa_nil)))))))), ?_⟩
    refine ⟨_, rfl, _, .ty "tuple", _, .type "tuple", _, rfl, .ty "tuple", hd.ty, kit_t, _, rfl, ?_⟩
    have q0 := k H (Same.refl H)
    cases hd with
    | tup ha hall =>
      rename_i a xs ds
      obtain ⟨hl, hm⟩ := ok_in ho
      have hL : ∀ n, n = xs.length → LenV K (.ref a) H n := fun n e => .inr ⟨_, .inl (.inl ha), e⟩
      refine iteF ⟨_, rfl, _, xs.length, rfl, hL _ rfl, rfl, _, rfl, ?_⟩
      match xs, ds, hall, hm, q0, k with
      | [v0, v1, v2], [d0, d1, d2], .cons h0 (.cons h1 (.cons h2 .nil)), hm, q0, k =>
        refine iteF ?_
        refine ⟨_, rfl, a, _, _, _, rfl, rfl, .inl (.inl ha), atI_nat (j := 0) rfl, _, .ty "str", _, .type "str", _, rfl, .ty "str", h0.ty, kit_s, _, rfl, ?_⟩
        have m1 := hm d1 (by simp)
        have m2 := hm d2 (by simp)
        cases e0 : isS d0 with
        | true =>
          refine iteF ?_
          refine ⟨_, rfl, a, _, _, _, rfl, rfl, .inl (.inl ha), atI_nat (j := 1) rfl, v1, d1, rfl, h1, m1, fun H1 s1 => ⟨_, rfl, ?_⟩⟩
          cases e1 : dStrs d1 with
          | true =>
            refine iteT ?_
            refine ⟨_, rfl, a, _, _, _, rfl, rfl, .inl (.inl (s1 _ _ ha)), atI_nat (j := 2) rfl, _, rfl, v2, d2, m, rfl, h2.same s1, m2, fun H2 s2 => ?_⟩
            have q := k H2 (s1.trans s2)
            simp only [dRow, e0, e1, Bool.true_and] at q
            exact q
          | false =>
            refine iteF ?_
            have q := k H1 s1
            simp only [dRow, e0, e1, Bool.true_and, Bool.false_and] at q
            exact q
        | false =>
          refine iteT ?_
          simp only [dRow, e0, Bool.false_and] at q0
          exact q0
      | [], [], .nil, _, q0, _ => exact iteT q0
      | [_], [_], .cons _ .nil, _, q0, _ => exact iteT q0
      | [_, _], [_, _], .cons _ (.cons _ .nil), _, q0, _ => exact iteT q0
      | _ :: _ :: _ :: _ :: r, _ :: _ :: _ :: _ :: _, .cons _ (.cons _ (.cons _ (.cons _ _))), _, q0, _ =>
        refine iteDT ?_ q0
        rw [Bool.not_eq_true', decide_eq_false_iff_not]
        intro e
        injection e with e
        simp only [List.length_cons] at e
        omega
    | _ => exact iteT q0
/-- the law's are_parts -/
def spLParts : Sp := fun vs H Q _ => ∃ (p : Addr) (v1 v2 v3 v4 : V) (d1 d2 d3 d4 : PyData), vs = [.ref p] ∧ H p = some (.tup [v1, v2, v3, v4]) ∧ Dh H v1 d1 ∧ Dh H v2 d2 ∧ Dh H v3 d3 ∧ Dh H v4 d4 ∧
  okD 1000 20 d1 = true ∧ okD 1000 20 d2 = true ∧ okD 1000 20 d3 = true ∧ okD 1000 20 d4 = true ∧ ∀ H', Same H H' → Q (.bl (dParts d1 d2 d3 d4)) H'
theorem ok_lparts (T : Txt K mg) : FnOk P w K mg base CX0 4 T.f_law_are_parts T.fd_law_are_parts ["_law_parts"] spLParts := by
  have GS : FnOk P w K mg base CX0 1 T.f_law_are_strings T.fd_law_are_strings ["_law_value"] (spD dStrs) := ok_lstrs T
  have GC : FnOk P w K mg base CX0 2 T.f_law_are_choices T.fd_law_are_choices ["_law_value", "_law_k"] (spDK dChs) := ok_lchoices T
  have GR : FnOk P w K mg base CX0 3 T.f_law_is_row T.fd_law_is_row ["_law_value", "_law_k"] (spDK dRow) := ok_lrow T
  refine T.F_law_are_parts.ok sc_law_are_parts (fun vs H Q E h => ?_) (fun cdv A outer s H vs Q E hr h => ?_)
  · obtain ⟨p, v1, v2, v3, v4, d1, d2, d3, d4, rfl, _⟩ := h
    rfl
  · obtain ⟨p, v1, v2, v3, v4, d1, d2, d3, d4, rfl, hp, h1, h2, h3, h4, o1, o2, o3, o4, k⟩ := h
    refine ⟨_, (pss_cons (ps_asg (pv 0) (pg_tup rfl (pgs_cons (pg_name (i := 1) sc_law_are_parts.nd rfl (Or.inl rfl)) (pgs_cons (pg_name (i := 2) sc_law_are_parts.nd rfl (Or.inl rfl)) (pgs_cons (pg_name (i := 3) sc_law_are_parts.nd rfl (Or.inr rfl)) (pgs_cons (pg_name (i := 4) sc_law_are_parts.nd rfl (Or.inl rfl)) pgs_nil))))))
      (pss_cons (ps_if (PW.pt (pw_or (pt_not (pt_val (pe_call (ok_lstrs T) (hr.mono (by decide)) rfl T.g_law_are_strings T.F_law_are_strings.kp T.b_law_are_strings .nil pass0 (pa_cons (pv 1) pa_nil)))) (pw_or1 (pt_cmpR op_ne (pe_callB (call_lenN (K := K)) (by rfl) T.z_len (by decide +kernel) (pa_cons (pv 1) pa_nil)) pe_int (nomark _)))))
        (pss_one (ps_ret pe_bl))
        pss_nil)
      (pss_cons (ps_if (PW.pt (pw_or (pt_not (pt_val (pe_call (ok_lstrs T) (hr.mono (by decide)) rfl T.g_law_are_strings T.F_law_are_strings.kp T.b_law_are_strings .nil pass0 (pa_cons (pv 2) pa_nil)))) (pw_or1 (pt_not (pt_val (pe_callB (call_isiN (K := K)) (by rfl) T.z_isinstance (by decide +kernel) (pa_cons (pv 3) (pa_cons (pe_bltn (v := .ty "tuple") (by rfl) T.z_tuple (by decide +kernel) rfl) pa_nil))))))))
        (pss_one (ps_ret pe_bl))
        pss_nil)
      (pss_cons (ps_if (PW.pt (pw_or (pt_cmpR (op_neNilH (K := K) hr.units) (pe_lc (own := [("_law_k", 6)]) (g := gName 6) (by rfl) sc_law_are_parts.nd (pi_range1 (by rfl) T.z_range (pa_cons (pe_callB (call_lenN (K := K)) (by rfl) T.z_len (by decide +kernel) (pa_cons (pv 3) pa_nil)) pa_nil)) (blkOk_by (own := [("_law_k", 6)]) (N := n_law_are_parts) (sc := defScope s_law_are_parts) (by decide +kernel)) (fun _ _ _ _ _ => (pg_name (i := 6) sc_law_are_parts.nd rfl (Or.inl rfl))) (fun _ _ _ _ _ => (pts_one (pt_not (pt_val (pe_call (ok_lrow T) (hr.mono (by decide)) rfl T.g_law_is_row T.F_law_is_row.kp T.b_law_is_row .nil pass0 (pa_cons (pe_ix (ix_tupK (K := K)) (pv 3) (pv 6) (fun _ _ => rfl)) (pa_cons (pv 6) pa_nil))))))) (fun _ _ _ _ _ => (pv 6))) (pe_lst pa_nil) (nomark _)) (pw_or1 (pt_not (pt_val (pe_callB (call_isiN (K := K)) (by rfl) T.z_isinstance (by decide +kernel) (pa_cons (pv 4) (pa_cons (pe_bltn (v := .ty "tuple") (by rfl) T.z_tuple (by decide +kernel) rfl) pa_nil))))))))
        (pss_one (ps_ret pe_bl))
        pss_nil)
      (pss_one (ps_ret (pe_cmpR (op_eqNilH (K := K) hr.units) (pe_lc (own := [("_law_one", 5)]) (g := gName 5) (by rfl) sc_law_are_parts.nd (pi_tup (pv 4)) (blkOk_by (own := [("_law_one", 5)]) (N := n_law_are_parts) (sc := defScope s_law_are_parts) (by decide +kernel)) (fun _ _ _ _ _ => (pg_name (i := 5) sc_law_are_parts.nd rfl (Or.inl rfl))) (fun _ _ _ _ _ => (pts_one (pt_not (pt_val (pe_call (ok_lchoices T) (hr.mono (by decide)) rfl T.g_law_are_choices T.F_law_are_choices.kp T.b_law_are_choices .nil pass0 (pa_cons (pv 5) (pa_cons (pe_callB (call_lenN (K := K)) (by rfl) T.z_len (by decide +kernel) (pa_cons (pv 3) pa_nil)) pa_nil))))))) (fun _ _ _ _ _ => (pv 5))) (pe_lst pa_nil) (nomark _)))))))), ?_⟩
    refine ⟨_, rfl, p, _, rfl, .inl (.inl hp), rfl, _, _, rfl, _, _, rfl, _, _, rfl, _, _, rfl, rfl, ?_⟩
    refine ⟨_, rfl, v1, d1, rfl, h1, o1, fun H1 s1 => ⟨_, rfl, ?_⟩⟩
    cases e1 : dStrs d1 with
    | false =>
      have q := k H1 s1
      simp only [dParts, e1, Bool.false_and] at q
      exact iteT (iteT q)
    | true =>
    refine iteF ?_
    obtain ⟨ds1, rfl⟩ := dStrs_tup e1
    cases h1 with
    | tup ha1 hall1 =>
    rename_i a1 xs1
    refine ⟨_, rfl, _, xs1.length, rfl, .inr ⟨_, .inl (.inl (s1 _ _ ha1)), rfl⟩, rfl, _, rfl, ?_⟩
    by_cases l3 : ds1.length = 3
    case neg =>
      refine iteDT ?_ ?_
      · rw [Bool.not_eq_true', decide_eq_false_iff_not]
        intro e
        injection e with e
        rw [hall1.len] at e
        omega
      · have q := k H1 s1
        rw [show dParts (.tuple ds1) d2 d3 d4 = false by simp [dParts, dLen, l3]] at q
        exact q
    case pos =>
    refine iteDF (by rw [hall1.len, l3]; rfl) ?_
    refine ⟨_, rfl, v2, d2, rfl, h2.same s1, o2, fun H2 s2 => ⟨_, rfl, ?_⟩⟩
    have S2 := s1.trans s2
    cases e2 : dStrs d2 with
    | false =>
      have q := k H2 S2
      simp only [dParts, e2, Bool.and_false, Bool.false_and] at q
      exact iteT q
    | true =>
    refine iteF ?_
    refine ⟨_, rfl, _, .ty "tuple", _, .type "tuple", _, rfl, .ty "tuple", (h3.same S2).ty, kit_t, _, rfl, ?_⟩
    cases e3 : isT d3 with
    | false =>
      have q := k H2 S2
      rw [show dParts (.tuple ds1) d2 d3 d4 = false by cases d3 <;> first | (cases e3; done) | simp [dParts, dRows]] at q
      exact iteT q
    | true =>
    refine iteF ?_
    cases h3 with
    | non => cases e3
    | bl b => cases e3
    | int i => cases e3
    | str z => cases e3
    | lst h a => cases e3
    | tup ha3 hall3 =>
    rename_i a3 xs3 ds3
    obtain ⟨hl3, hm3⟩ := ok_in o3
    refine ⟨_, rfl, _, xs3.length, rfl, .inr ⟨_, .inl (.inl (S2 _ _ ha3)), rfl⟩, _, rfl, by omega, ?_, fun D hD => ?_⟩
    · have := hall3.len
      omega
    refine lc_outF (walk_range (lo := 0) (n := xs3.length)) (fun i => !dRow i (ds3.getD i .none)) (fun i => .int (0 + (i : Nat))) (by rw [hall3.len]; exact hl3) hD (fun _ _ => trivial) ?_ ?_
    · rintro i x H3 H4 Qg hi s3 ⟨rfl, rfl⟩ kk
      have hi' : i < ds3.length := by rw [← hall3.len]; exact hi
      obtain ⟨y, e, hy, he, hde⟩ := hall3.at hi'
      refine kk _ _ (Same.refl _) rfl (fun H3 R hR => ⟨_, rfl, hR⟩) fun R hR => ?_
      rw [getD_of he] at hR
      refine ⟨_, rfl, _, rfl, a3, _, _, _, rfl, rfl, .inl (.inl ((S2.trans s3) _ _ ha3)), ?_, _, rfl, y, e, _, rfl, hde.same (S2.trans s3), hm3 e (List.mem_of_getElem? he), fun H5 s5 => ⟨_, rfl, ?_⟩⟩
      · rw [Int.zero_add]; exact atI_nat hy
      · rw [Int.zero_add]; exact hR H5 s5
    intro H3 s3 hl
    refine ⟨(by show 0 ≤ sizeLine; decide), fun z hz => ?_⟩
    have sz := same_new (o := .lst []) hz
    refine ⟨D, z, _, rfl, rfl, .inl (.inl (sz _ _ hl)), .inl (.inl upd_same), _, rfl, ?_⟩
    rw [if_pos rfl, filter_nil]
    have eR : ((List.range xs3.length).all fun i => dRow (i : Nat) (ds3.getD i .none)) = dRows (.tuple ds3) := by
      rw [hall3.len]; rfl
    rw [eR]
    have S3 := (S2.trans s3).trans sz
    generalize upd H3 z (.lst []) = H3 at S3
    cases e3 : dRows (.tuple ds3) with
    | false =>
      have q := k _ S3
      rw [show dParts (.tuple ds1) d2 (.tuple ds3) d4 = false by simp [dParts, e3]] at q
      exact iteT (iteT q)
    | true =>
    refine iteF ?_
    have eQ : dParts (.tuple ds1) d2 (.tuple ds3) d4 = dLegs ds3.length d4 := by simp [dParts, dLen, e1, e2, e3, l3]
    rw [eQ] at k
    refine ⟨_, rfl, _, .ty "tuple", _, .type "tuple", _, rfl, .ty "tuple", (h4.same S3).ty, kit_t, _, rfl, ?_⟩
    have q0 := k _ S3
    cases h4 with
    | tup ha4 hall4 =>
      rename_i a4 xs4 ds4
      obtain ⟨hl4, hm4⟩ := ok_in o4
      refine iteF ⟨_, rfl, a4, rfl, ⟨_, .inl (.inl (S3 _ _ ha4))⟩, fun B hB => ?_⟩
      refine lc_outF (walk_tup (K := K) (a := a4) (xs := xs4)) (fun i => !dChs ds3.length (ds4.getD i .none)) (fun i => xs4.getD i .non) (by rw [hall4.len]; exact hl4) hB (fun H1 s1 => .inl (.inl (s1 _ _ (S3 _ _ ha4)))) ?_ ?_
      · rintro i x H5 H6 Qg hi s5 ⟨rfl, hx⟩ kk
        obtain ⟨e, he, hde⟩ := hall4.get hx
        refine kk _ _ (Same.refl _) rfl (fun H3 R hR => ⟨_, rfl, by rw [getD_of hx] at hR; exact hR⟩) fun R hR => ?_
        rw [getD_of he] at hR
        refine ⟨_, rfl, _, rfl, _, xs3.length, rfl, .inr ⟨_, .inl (.inl ((S3.trans s5) _ _ ha3)), rfl⟩, x, e, _, rfl, hde.same (S3.trans s5), hm4 e (List.mem_of_getElem? he), fun H7 s7 => ⟨_, rfl, ?_⟩⟩
        rw [hall3.len]; exact hR H7 s7
      · intro H5 s5 hl5
        refine ⟨(by show 0 ≤ sizeLine; decide), fun z hz => ?_⟩
        have sz := same_new (o := .lst []) hz
        refine ⟨B, z, _, rfl, rfl, .inl (.inl (sz _ _ hl5)), .inl (.inl upd_same), ?_⟩
        have q := k _ ((S3.trans s5).trans sz)
        show Q (.bl _) _
        rw [if_neg (by decide), filter_nil, hall4.len, all_range (dChs ds3.length)]
        exact q
    | _ => exact iteT q0
end
end Sn

/-! ## C(e, ..) in a try, where __init__ may raise; text * number -/
namespace Sn
open PySem PySem.Spec PyProof.Rows L2
section
variable {X : Cx} {CX : CXT} {k : Nat} {f C : Addr} {fd : FuncData} {ps : List Str} {sp : Sp} {E : L2.St → XK} {x : Str} {p pos : Pos} {e : Expr} {es : List Expr} {t : TA}
def tMakeT (C : Addr) (sp : Sp) (E : L2.St → XK) (t : TA) : TE := fun σ H Q => t σ H fun vs H1 => ∀ x dx, H1 x = none → H1 dx = none → dx ≠ x →
  sp (.ref x :: vs) (upd (upd H1 dx (.own x)) x (.ins C dx [])) (fun v H2 => v = .non ∧ Q (.ref x) H2) (E σ)
theorem run_makeT {pins : List (Addr × Obj)} {σ : L2.St} {H : Hp} {s : Shared} {Q : VK} {us : List Value} {vs : List V} (M : Mk X.K C f) (F : FnOk X.prog X.w X.K X.mg X.base CX k f fd ps sp) (hr : Room (k + 1) X.A) (hb : L2.Binds X.K fd ps [])
    (hx : PassesAt CX X σ (E σ)) (I : Inv X pins σ H s) (r : Vals vs us)
    (h : ∀ x dx, H x = none → H dx = none → dx ≠ x → sp (.ref x :: vs) (upd (upd H dx (.own x)) x (.ins C dx [])) (fun v H2 => v = .non ∧ Q (.ref x) H2) (E σ)) :
    wpAny (model X.prog X.w) X.A (call (.ref C) us) (EP X pins σ Q) X.xe s := by
  have hq := h (s.heap.objs.size + 1) s.heap.objs.size (I.hok.fresh (Nat.le_succ _)) (I.hok.fresh (Nat.le_refl _)) (Nat.ne_of_lt (Nat.lt_succ_self _))
  have I2 := Inv.made (C := C) I
  have r2 : Vals (V.ref (s.heap.objs.size + 1) :: vs) (Value.ref (s.heap.objs.size + 1) :: us) := .cons rfl r
  have hl : (Value.ref (s.heap.objs.size + 1) :: us).length = ps.length := by rw [← r2.length]; exact F.len _ _ _ _ hq
  have b := hb { s with heap := (s.heap.push PySem.W.emptyDict).push (PySem.W.instObj C s.heap.objs.size) } (Value.ref (s.heap.objs.size + 1) :: us) I2.kIn (by rw [List.append_nil]; exact hl)
  rw [List.append_nil] at b
  refine wpAny_call (make_map (f := f) I.kIn M.makes M.init (beq_iff_eq.mp M.fn) (codeAny_mono (F.run _ X.stack _ _ ⟨_ :: us, []⟩ _ _ _ (E σ) (hr.make C us []) (I2.env0.make C us []) b r2 hq) ?_))
  intro r s' hq'
  cases r with
  | error e => exact hx pins _ _ e s' I2 hq'
  | ok fl =>
    cases fl with
    | ret u =>
      obtain ⟨v, H', I3, rv, ev, q3⟩ := I2.after hq'
      subst ev
      exact ⟨rv, ⟨V.ref (s.heap.objs.size + 1), H', I3, rfl, q3⟩⟩
    | next => exact False.elim hq'
    | brk => exact False.elim hq'
    | cont => exact False.elim hq'
theorem pe_makeT (M : Mk X.K C f) (F : FnOk X.prog X.w X.K X.mg X.base CX k f fd ps sp) (hr : Room (k + 1) X.A) (hg : Gl X x) (hm : X.mg x = some (.ref C)) (hb : L2.Binds X.K fd ps []) (hx : ∀ σ, PassesAt CX X σ (E σ))
    (ha : PA X (e :: es) t) (hdb : (x == ("__debug__" : Str)) = false := by decide) (he : starEach (e :: es) X.env = (false, eval e X.env) :: starEach es X.env := by rfl) (hpl : (backTo pos (starEach es X.env)).any (·.1) = false := by rfl) :
    PE X (.Call (.Name x p) (e :: es) [] pos) (tMakeT C sp E t) := by
  refine ⟨fun pins s σ H Q I h => ?_⟩
  refine wpAny_Call_Name_kw (ld_glob I hg hm ?_ hdb)
  refine PySem.W.callWith_K (h₀ := X.base) I.ok.mod.kin M.kp (thn (ha.run pos pins s σ H _ I h) ?_) he hpl
  rintro us s1 ⟨vs, H1, I1, r, q⟩
  exact ⟨I1.kIn, run_makeT M F hr hb (hx σ) I1 r q⟩
/-- n times the text -/
def reps (z : Str) (n : Nat) : Str := ⟨(List.replicate n z.cps).foldl (· ++ ·) #[]⟩
def rMulS : R2 := fun x y H Q => ∃ (z : Str) (n : Nat), x = .str z ∧ y = .int n ∧ 2 ≤ n ∧ 0 < z.length ∧ z.length * n ≤ 1000 ∧ (reps z n).length ≤ 1000 ∧ Q (.str (reps z n)) H
theorem op_mulS : OpR X (binaryOp .Mult) rMulS := by
  intro pins s σ H x y v u Q I rx ry h
  obtain ⟨z, n, rfl, rfl, h2, h0, hm, hl, q⟩ := h
  obtain ⟨t, rfl⟩ := rx
  obtain ⟨t', rfl⟩ := ry
  have hn : n ≤ 1000 := Nat.le_trans (Nat.le_mul_of_pos_left n h0) hm
  have hz : z.length ≤ 1000 := Nat.le_trans (Nat.le_mul_of_pos_right z.length (by omega)) hm
  refine PySem.P.mul_str ?_ (fun _ _ => ?_) (fun _ _ => ?_) ?_
  · rw [decide_eq_false (by omega), decide_eq_false (by omega)]; rfl
  · have : (1000 : Int) ≤ (2 ^ 63 - 1) / (n : Int) := by
      rw [Int.le_ediv_iff_mul_le (by omega)]
      omega
    omega
  · rw [Int.toNat_natCast]
    unfold Builtin.Str.tooLong
    rw [sizeLine_eq]
    exact decide_eq_false (by omega)
  · rw [if_neg (by omega), if_neg (by simp; omega), Int.toNat_natCast]
    exact ⟨Nat.le_of_lt (small1000 hl), .str _, H, I.tok _, ⟨_, rfl⟩, q⟩
end
end Sn

/-! ## law_k42: what is drawn -/
namespace Sn
open PySem PySem.Spec PyProof.Rows L2 TL
theorem ok_sub {n k : Nat} {ds : List PyData} (h : okD n (k + 1) (.tuple ds) = true) : ds.length ≤ n ∧ ∀ x ∈ ds, okD n k x = true := by
  simp only [okD, Bool.and_eq_true, decide_eq_true_eq, List.all_eq_true] at h
  exact h
theorem okT {n k : Nat} {ds : List PyData} (hl : ds.length ≤ n) (h : ∀ x ∈ ds, okD n k x = true) : okD n (k + 1) (.tuple ds) = true := by
  simp only [okD, Bool.and_eq_true, decide_eq_true_eq, List.all_eq_true]
  exact ⟨hl, h⟩
theorem okL {n k : Nat} {ds : List PyData} (hl : ds.length ≤ n) (h : ∀ x ∈ ds, okD n k x = true) : okD n (k + 1) (.list ds) = true := by
  simp only [okD, Bool.and_eq_true, decide_eq_true_eq, List.all_eq_true]
  exact ⟨hl, h⟩
section
variable {P : Program} {w : World} {K : PySem.W.Frag} {mg : Str → Option Value} {base : Heap}
/-- a drawn value that is no choice, or one -/
def spOdd : Sp := fun vs H Q _ => ∃ (d g c : Addr) (m k : Nat), vs = [.ref d, .int k] ∧ Dr H d g c m ∧ m ≤ 1000000 ∧ k ≤ 1000 ∧
  ∀ (x : V) (dx : PyData) (H' : Hp), okD 1 1 dx = true → Sd d g H' x dx → Dr H' d g c (m + 1) → Mv d g H H' → Q x H'
theorem ok_odd (T : Txt K mg) : FnOk P w K mg base CX0 4 T.f_law_odd T.fd_law_odd ["_law_state", "_law_k"] spOdd := by
  have GP : FnOk P w K mg base CX0 3 T.f_law_pick T.fd_law_pick ["_law_state", "_law_some"] spPick := ok_pick T
  refine T.F_law_odd.ok sc_law_odd (fun vs H Q E h => ?_) (fun cdv A outer s H vs Q E hr h => ?_)
  · obtain ⟨d, g, c, m, k, rfl, _⟩ := h
    rfl
  · obtain ⟨d, g, c, m, kk, rfl, D, hm, hk, k⟩ := h
    refine ⟨_, (pss_one (ps_ret (pe_call (ok_pick T) (hr.mono (by decide)) rfl T.g_law_pick T.F_law_pick.kp T.b_law_pick .nil pass0 (pa_cons (pv 0) (pa_cons (pe_lst (pa_cons pe_str (pa_cons pe_str (pa_cons pe_str (pa_cons pe_non (pa_cons pe_bl (pa_cons (pe_un un_neg pe_int) (pa_cons (pv 1) (pa_cons (pe_op op_add (pv 1) pe_int) (pa_cons (pe_lst (pa_cons pe_str pa_nil)) (pa_cons (pe_tup (pa_cons pe_str pa_nil)) (pa_cons pe_int (pa_cons pe_str (pa_cons pe_str (pa_cons pe_str (pa_cons pe_bl pa_nil)))))))))))))))) pa_nil))))), ?_⟩
    refine ⟨_, rfl, _, rfl, _, rfl, _, rfl, _, _, rfl, rfl, (by show 1 ≤ sizeLine; decide), fun p1 h1 => ⟨(by show 1 ≤ sizeLine; decide), fun p2 h2 => ⟨(by show 15 ≤ sizeLine; decide), fun L hL => ?_⟩⟩⟩
    have s1 := same_new (o := .lst [.str "a"]) h1
    have s2 := same_new (o := .tup [.str "a"]) h2
    generalize el : ([.str "", .str "ab", .str "\n", .non, .bl true, .int (-1), .int (kk : Nat), .int ((kk : Nat) + 1), .ref p1, .ref p2, .int 0, .str " ", .str "~", .str "!", .bl false] : List V) = l
    have s3 := same_new (o := .lst l) hL
    have S := (s1.trans s2).trans s3
    have q1 : Sd d g (upd (upd (upd H p1 (.lst [.str "a"])) p2 (.tup [.str "a"])) L (.lst l)) (.ref p1) (.list [.str "a"]) := ((Sd.lst D h1 (.cons (.str _) .nil)).same s2).same s3
    have q2 : Sd d g (upd (upd (upd H p1 (.lst [.str "a"])) p2 (.tup [.str "a"])) L (.lst l)) (.ref p2) (.tuple [.str "a"]) := (Sd.tup (D.same s1) h2 (.cons (.str _) .nil)).same s3
    have nL := dr_new ((D.same s1).same s2) hL
    refine ⟨d, g, c, _, D.same S, by omega, .inr ⟨L, l, rfl, upd_same, nL.2.1, by rw [← el]; show 0 < 15; decide, by rw [← el]; show 15 ≤ 1000; decide, fun x H' hx D' mv => ?_⟩⟩
    have fin : ∀ dx, okD 1 1 dx = true → Sd d g (upd (upd (upd H p1 (.lst [.str "a"])) p2 (.tup [.str "a"])) L (.lst l)) x dx → Q x H' := fun dx ho hs => k x dx H' ho (hs.mv mv) D' ((Mv.same S).trans mv)
    rw [← el] at hx
    simp only [List.mem_cons, List.not_mem_nil, or_false] at hx
    rcases hx with rfl | rfl | rfl | rfl | rfl | rfl | rfl | rfl | rfl | rfl | rfl | rfl | rfl | rfl | rfl
    · exact fin _ (by decide +kernel) (.str _)
    · exact fin _ (by decide +kernel) (.str _)
    · exact fin _ (by decide +kernel) (.str _)
    · exact fin _ (by decide +kernel) .non
    · exact fin _ (by decide +kernel) (.bl _)
    · exact fin _ (by decide +kernel) (.int _)
    · exact fin (.int _) (by simp only [okD, decide_eq_true_eq]; omega) (.int _)
    · exact fin (.int _) (by simp only [okD, decide_eq_true_eq]; omega) (.int _)
    · exact fin _ (by decide +kernel) q1
    · exact fin _ (by decide +kernel) q2
    · exact fin _ (by decide +kernel) (.int _)
    · exact fin _ (by decide +kernel) (.str _)
    · exact fin _ (by decide +kernel) (.str _)
    · exact fin _ (by decide +kernel) (.str _)
    · exact fin _ (by decide +kernel) (.bl _)
/-- at most three choices, drawn -/
def spDraws : Sp := fun vs H Q _ => ∃ (d g c : Addr) (m k : Nat), vs = [.ref d, .int k] ∧ Dr H d g c m ∧ m ≤ 1000000 ∧ k ≤ 1000 ∧
  ∀ (q : Addr) (xs : List V) (ds : List PyData) (H' : Hp), H q = none → H' q = some (.lst xs) → (∀ H2, DhAll H2 xs ds) → ds.length ≤ 3 → (∀ x ∈ ds, okD 0 0 x = true) → Dr H' d g c (m + 10) → Mv d g H H' → Q (.ref q) H'
theorem ok_draws (T : Txt K mg) : FnOk P w K mg base CX0 4 T.f_law_choices T.fd_law_choices ["_law_state", "_law_k"] spDraws := by
  have GP : FnOk P w K mg base CX0 3 T.f_law_pick T.fd_law_pick ["_law_state", "_law_some"] spPick := ok_pick T
  have GT : FnOk P w K mg base CX0 2 T.f_law_take T.fd_law_take ["_law_state", "_law_size"] spTake := ok_take T
  refine T.F_law_choices.ok sc_law_choices (fun vs H Q E h => ?_) (fun cdv A outer s H vs Q E hr h => ?_)
  · obtain ⟨d, g, c, m, k, rfl, _⟩ := h
    rfl
  · obtain ⟨d, g, c, m, kk, rfl, D, hm, hk, k⟩ := h
    refine ⟨_, (pss_cons (ps_set (i := 2) sc_law_choices.nd rfl (Or.inl rfl) (pe_lst pa_nil))
      (pss_cons (ps_for PassesOwn.never rfl (pi_range1 (by rfl) T.z_range (pa_cons (pe_call (ok_take T) (hr.mono (by decide)) rfl T.g_law_take T.F_law_take.kp T.b_law_take .nil pass0 (pa_cons (pv 0) (pa_cons pe_int pa_nil))) pa_nil)) (pg_name (i := 3) sc_law_choices.nd rfl (Or.inl rfl))
        (pss_one (ps_expr (pe_bm PySem.F.plainAttrs_list PySem.F.slot_list_append PySem.F.type_list_append mt_append (pv 2) (pa_cons (pe_call (ok_pick T) (hr.mono (by decide)) rfl T.g_law_pick T.F_law_pick.kp T.b_law_pick .nil pass0 (pa_cons (pv 0) (pa_cons (pe_ifExp (pt_cmpR op_gt (pv 1) pe_int (nomark _)) (pe_lst (pa_cons pe_str (pa_cons pe_str (pa_cons pe_str (pa_cons pe_str (pa_cons pe_str (pa_cons (pe_call (ok_take T) (hr.mono (by decide)) rfl T.g_law_take T.F_law_take.kp T.b_law_take .nil pass0 (pa_cons (pv 0) (pa_cons (pv 1) pa_nil))) pa_nil))))))) (pe_lst (pa_cons pe_str (pa_cons pe_str (pa_cons pe_str pa_nil))))) pa_nil))) pa_nil)))))
      (pss_one (ps_ret (pv 2))))), ?_⟩
    refine ⟨(by show 0 ≤ sizeLine; decide), fun q hq => ?_⟩
    have nq := dr_new D hq
    have s0 := same_new (o := .lst []) hq
    refine ⟨_, rfl, d, g, c, _, _, rfl, D.same s0, by omega, by decide, by decide, fun r H1 r0 r1 D1 mv1 => ?_⟩
    obtain ⟨n, rfl⟩ := Int.eq_ofNat_of_zero_le r0
    refine ⟨_, rfl, by omega, by omega, ?_⟩
    refine for_range (lo := 0) (n := n) (fun i σ H2 => ∃ (v3 : Option V) (xs : List V) (ds : List PyData), σ = [some (.ref d), some (.int kk), some (.ref q), v3] ∧ H2 q = some (.lst xs) ∧ (∀ H3, DhAll H3 xs ds) ∧ ds.length = i ∧ (∀ x ∈ ds, okD 0 0 x = true) ∧ Dr H2 d g c (m + 1 + 2 * i) ∧ Mv d g H H2)
      ⟨_, [], [], rfl, mv1 _ _ nq.1 nq.2.1 upd_same, fun _ => .nil, rfl, (fun x hx => nomatch hx), D1, (Mv.same s0).trans mv1⟩ ?_ ?_
    · rintro i σ H2 hi ⟨v3, xs, ds, rfl, hq2, hall, hl, ho, D2, mv2⟩
      have last : ∀ (x : V) (dx : PyData) (H3 : Hp), (∀ H4, Dh H4 x dx) → okD 0 0 dx = true → H3 q = some (.lst xs) → Dr H3 d g c (m + 1 + 2 * (i + 1)) → Mv d g H H3 →
          ∃ (v3 : Option V) (ys : List V) (es : List PyData), ([some (.ref d), some (.int kk), some (.ref q), some (.int (0 + (i : Int)))] : List (Option V)) = [some (.ref d), some (.int kk), some (.ref q), v3] ∧ (upd H3 q (.lst (xs ++ [x]))) q = some (.lst ys) ∧ (∀ H3, DhAll H3 ys es) ∧ es.length = i + 1 ∧ (∀ x ∈ es, okD 0 0 x = true) ∧ Dr (upd H3 q (.lst (xs ++ [x]))) d g c (m + 1 + 2 * (i + 1)) ∧ Mv d g H (upd H3 q (.lst (xs ++ [x]))) := by
        intro x dx H3 hx hd h3 D3 mv3
        refine ⟨_, xs ++ [x], ds ++ [dx], rfl, upd_same, fun H4 => (hall H4).app (.cons (hx H4) .nil), by rw [List.length_append, hl]; rfl, fun y hy => ?_, D3.upd nq, mv3.put hq⟩
        rcases List.mem_append.mp hy with hy | hy
        · exact ho y hy
        · rw [List.mem_singleton.mp hy]; exact hd
      have lx : xs.length = i := by rw [(hall H2).len, hl]
      have ap : ∀ (x : V) (dx : PyData) (H3 : Hp), (∀ H4, Dh H4 x dx) → okD 0 0 dx = true → H3 q = some (.lst xs) → Dr H3 d g c (m + 1 + 2 * (i + 1)) → Mv d g H H3 → xs.length < sizeLine := fun _ _ _ _ _ _ _ _ => small1000 (by omega)
      refine ⟨_, rfl, .inl ⟨rfl, _, .inl (.inl hq2)⟩, _, rfl, _, rfl, _, _, rfl, rfl, _, rfl, ?_⟩
      by_cases h0 : 0 < kk
      · rw [decide_eq_true (show (0 : Int) < ((kk : Nat) : Int) by omega)]
        refine iteT ?_
        refine ⟨_, rfl, _, rfl, d, g, c, _, _, rfl, D2, by omega, by omega, by omega, fun r H3 r0 r1 D3 mv3 => ?_⟩
        refine ⟨(by show 6 ≤ sizeLine; decide), fun L hL => ?_⟩
        have sL := same_new (o := .lst [.str "a", .str " ", .str "~", .str "7", .str "!", .int r]) hL
        have nL := dr_new D3 hL
        refine ⟨d, g, c, _, D3.same sL, by omega, .inr ⟨L, _, rfl, upd_same, nL.2.1, by show 0 < 6; decide, by show 6 ≤ 1000; decide, fun x H4 hx D4 mv4 => ?_⟩⟩
        have hq4 := mv4 _ _ nq.1 nq.2.1 (sL _ _ (mv3 _ _ nq.1 nq.2.1 hq2))
        have mv5 := ((mv2.trans mv3).trans (Mv.same sL)).trans mv4
        refine ⟨q, _, _, rfl, rfl, hq4, small1000 (by omega), ?_⟩
        simp only [List.mem_cons, List.not_mem_nil, or_false] at hx
        rcases hx with rfl | rfl | rfl | rfl | rfl | rfl
        · exact last _ _ H4 (fun _ => .str _) (by decide +kernel) hq4 (D4.mono (by omega)) mv5
        · exact last _ _ H4 (fun _ => .str _) (by decide +kernel) hq4 (D4.mono (by omega)) mv5
        · exact last _ _ H4 (fun _ => .str _) (by decide +kernel) hq4 (D4.mono (by omega)) mv5
        · exact last _ _ H4 (fun _ => .str _) (by decide +kernel) hq4 (D4.mono (by omega)) mv5
        · exact last _ _ H4 (fun _ => .str _) (by decide +kernel) hq4 (D4.mono (by omega)) mv5
        · exact last _ (.int r) H4 (fun _ => .int _) (by simp only [okD, decide_eq_true_eq]; omega) hq4 (D4.mono (by omega)) mv5
      · rw [decide_eq_false (show ¬ (0 : Int) < ((kk : Nat) : Int) by omega)]
        refine iteF ?_
        refine ⟨(by show 3 ≤ sizeLine; decide), fun L hL => ?_⟩
        have sL := same_new (o := .lst [.str "a", .str "0", .str "_"]) hL
        have nL := dr_new D2 hL
        refine ⟨d, g, c, _, D2.same sL, by omega, .inr ⟨L, _, rfl, upd_same, nL.2.1, by show 0 < 3; decide, by show 3 ≤ 1000; decide, fun x H4 hx D4 mv4 => ?_⟩⟩
        have hq4 := mv4 _ _ nq.1 nq.2.1 (sL _ _ hq2)
        have mv5 := (mv2.trans (Mv.same sL)).trans mv4
        refine ⟨q, _, _, rfl, rfl, hq4, small1000 (by omega), ?_⟩
        simp only [List.mem_cons, List.not_mem_nil, or_false] at hx
        rcases hx with rfl | rfl | rfl
        · exact last _ _ H4 (fun _ => .str _) (by decide +kernel) hq4 (D4.mono (by omega)) mv5
        · exact last _ _ H4 (fun _ => .str _) (by decide +kernel) hq4 (D4.mono (by omega)) mv5
        · exact last _ _ H4 (fun _ => .str _) (by decide +kernel) hq4 (D4.mono (by omega)) mv5
    · rintro σ H2 ⟨v3, xs, ds, rfl, hq2, hall, hl, ho, D2, mv2⟩
      exact ⟨_, rfl, k q xs ds H2 hq hq2 hall (by omega) ho (D2.mono (by omega)) mv2⟩
end
end Sn

/-! ## law_k42: a row spoilt -/
namespace Sn
open PySem PySem.Spec PyProof.Rows L2 TL
theorem cut_mem {ds : List PyData} {lo hi : Option Int} {x : PyData} (h : x ∈ cutD ds lo hi) : x ∈ ds := List.mem_of_mem_drop (List.mem_of_mem_take h)
theorem cut_len (ds : List PyData) (lo hi : Option Int) : (cutD ds lo hi).length ≤ ds.length := by
  unfold cutD
  rw [List.length_take, List.length_drop]
  omega
theorem cut_two (ds : List PyData) (j : Nat) : (cutD ds none (some (j : Int))).length + (cutD ds (some (j : Int)) none).length = ds.length := by
  unfold cutD
  have e1 : HT.sIx ds.length 0 (some (j : Int)) = min j ds.length := HT.sIx_nat _ _ j
  have e2 : HT.sIx ds.length ds.length (some (j : Int)) = min j ds.length := HT.sIx_nat _ _ j
  have e3 : HT.sIx ds.length 0 none = 0 := HT.sIx_none _ _
  have e4 : HT.sIx ds.length ds.length none = ds.length := HT.sIx_none _ _
  rw [e1, e2, e3, e4]
  simp only [List.length_take, List.length_drop]
  omega
section
variable {P : Program} {w : World} {K : PySem.W.Frag} {mg : Str → Option Value} {base : Heap}
def spSRow : Sp := fun vs H Q _ => ∃ (d g c a : Addr) (m k n : Nat) (r0 r1 : PyData) (cs : List PyData), vs = [.ref d, .ref a, .int k] ∧ Dr H d g c m ∧ m + 10 ≤ 1000000 ∧ k ≤ 1000 ∧ 10 ≤ n ∧ n ≤ 400 ∧ Sd d g H (.ref a) (.tuple [r0, r1, .tuple cs]) ∧ okD n 4 (.tuple [r0, r1, .tuple cs]) = true ∧
  ∀ (x : V) (dx : PyData) (H' : Hp), okD (n + 2) 4 dx = true → Sd d g H' x dx → Dr H' d g c (m + 3) → Mv d g H H' → Q x H'
theorem ok_srow (T : Txt K mg) : FnOk P w K mg base CX0 5 T.f_law_spoilt_row T.fd_law_spoilt_row ["_law_state", "_law_row", "_law_k"] spSRow := by
  have GP : FnOk P w K mg base CX0 3 T.f_law_pick T.fd_law_pick ["_law_state", "_law_some"] spPick := ok_pick T
  have GT : FnOk P w K mg base CX0 2 T.f_law_take T.fd_law_take ["_law_state", "_law_size"] spTake := ok_take T
  have GO : FnOk P w K mg base CX0 4 T.f_law_odd T.fd_law_odd ["_law_state", "_law_k"] spOdd := ok_odd T
  refine T.F_law_spoilt_row.ok sc_law_spoilt_row (fun vs H Q E h => ?_) (fun cdv A outer s H vs Q E hr h => ?_)
  · obtain ⟨d, g, c, a, m, k, n, r0, r1, cs, rfl, _⟩ := h
    rfl
  · obtain ⟨d, g, c, a, m, kk, n, r0, r1, cs, rfl, D, hm, hk, n10, n500, hs, ho, k⟩ := h
    refine ⟨_, (pss_cons (ps_set (i := 3) sc_law_spoilt_row.nd rfl (Or.inl rfl) (pe_call (ok_take T) (hr.mono (by decide)) rfl T.g_law_take T.F_law_take.kp T.b_law_take .nil pass0 (pa_cons (pv 0) (pa_cons pe_int pa_nil))))
      (pss_cons (ps_if (pt_cmpR op_eq (pv 3) pe_int (nomark _))
        (pss_one (ps_ret (pe_call (ok_pick T) (hr.mono (by decide)) rfl T.g_law_pick T.F_law_pick.kp T.b_law_pick .nil pass0 (pa_cons (pv 0) (pa_cons (pe_lst (pa_cons (pe_slice sl_tupA (pv 1) po_none (po_some pe_int)) (pa_cons (pe_op op_catA (pv 1) (pe_tup (pa_cons (pe_tup pa_nil) pa_nil))) (pa_cons (pe_callTy call_list_of (by rfl) T.z_list (by decide +kernel) (pa_cons (pv 1) pa_nil)) (pa_cons pe_non (pa_cons (pe_op op_catA (pe_tup (pa_cons pe_int pa_nil)) (pe_slice sl_tupA (pv 1) (po_some pe_int) po_none)) (pa_cons (pe_op op_catA (pe_tup (pa_cons pe_non pa_nil)) (pe_slice sl_tupA (pv 1) (po_some pe_int) po_none)) pa_nil))))))) pa_nil)))))
        pss_nil)
      (pss_cons (ps_if (pt_cmpR op_eq (pv 3) pe_int (nomark _))
        (pss_one (ps_ret (pe_tup (pa_cons (pe_ix (ix_tupK (K := K)) (pv 1) pe_int (fun _ _ => rfl)) (pa_cons (pe_call (ok_pick T) (hr.mono (by decide)) rfl T.g_law_pick T.F_law_pick.kp T.b_law_pick .nil pass0 (pa_cons (pv 0) (pa_cons (pe_lst (pa_cons pe_non (pa_cons (pe_lst (pa_cons pe_str pa_nil)) (pa_cons pe_str (pa_cons (pe_tup (pa_cons pe_int pa_nil)) (pa_cons (pe_tup (pa_cons pe_str (pa_cons pe_non pa_nil))) (pa_cons (pe_tup (pa_cons pe_bl pa_nil)) (pa_cons (pe_tup (pa_cons pe_str pa_nil)) pa_nil)))))))) pa_nil))) (pa_cons (pe_ix (ix_tupK (K := K)) (pv 1) pe_int (fun _ _ => rfl)) pa_nil))))))
        pss_nil)
      (pss_cons (ps_if (pt_cmpR op_eq (pv 3) pe_int (nomark _))
        (pss_one (ps_ret (pe_tup (pa_cons (pe_ix (ix_tupK (K := K)) (pv 1) pe_int (fun _ _ => rfl)) (pa_cons (pe_ix (ix_tupK (K := K)) (pv 1) pe_int (fun _ _ => rfl)) (pa_cons (pe_call (ok_pick T) (hr.mono (by decide)) rfl T.g_law_pick T.F_law_pick.kp T.b_law_pick .nil pass0 (pa_cons (pv 0) (pa_cons (pe_lst (pa_cons pe_non (pa_cons pe_str (pa_cons (pe_callTy call_list_of (by rfl) T.z_list (by decide +kernel) (pa_cons (pe_ix (ix_tupK (K := K)) (pv 1) pe_int (fun _ _ => rfl)) pa_nil)) (pa_cons pe_int pa_nil))))) pa_nil))) pa_nil))))))
        pss_nil)
      (pss_cons (ps_set (i := 4) sc_law_spoilt_row.nd rfl (Or.inl rfl) (pe_call (ok_take T) (hr.mono (by decide)) rfl T.g_law_take T.F_law_take.kp T.b_law_take .nil pass0 (pa_cons (pv 0) (pa_cons (pe_op op_add (pe_callB (call_lenN (K := K)) (by rfl) T.z_len (by decide +kernel) (pa_cons (pe_ix (ix_tupK (K := K)) (pv 1) pe_int (fun _ _ => rfl)) pa_nil)) pe_int) pa_nil))))
      (pss_one (ps_ret (pe_tup (pa_cons (pe_ix (ix_tupK (K := K)) (pv 1) pe_int (fun _ _ => rfl)) (pa_cons (pe_ix (ix_tupK (K := K)) (pv 1) pe_int (fun _ _ => rfl)) (pa_cons (pe_op op_catA (pe_op op_catA (pe_slice sl_tupA (pe_ix (ix_tupK (K := K)) (pv 1) pe_int (fun _ _ => rfl)) po_none (po_some (pv 4))) (pe_tup (pa_cons (pe_call (ok_odd T) (hr.mono (by decide)) rfl T.g_law_odd T.F_law_odd.kp T.b_law_odd .nil pass0 (pa_cons (pv 0) (pa_cons (pv 2) pa_nil))) pa_nil))) (pe_slice sl_tupA (pe_ix (ix_tupK (K := K)) (pv 1) pe_int (fun _ _ => rfl)) (po_some (pv 4)) po_none)) pa_nil))))))))))), ?_⟩
    obtain ⟨_, xs, e, ha, hall⟩ := hs.tupAt D
    cases e
    have na : a ≠ d ∧ a ≠ g := by
      obtain ⟨⟨l, k, _, _, hd⟩, ⟨gs, hg⟩, _, _⟩ := id D
      exact ⟨fun z => (by rw [z, hd] at ha; cases ha), fun z => (by rw [z, hg] at ha; cases ha)⟩
    obtain ⟨_, hsub⟩ := ok_sub ho
    have ok0 : okD (n + 2) 3 r0 = true := okD_mono (by omega) (Nat.le_refl _) (hsub r0 (by simp))
    have ok1 : okD (n + 2) 3 r1 = true := okD_mono (by omega) (Nat.le_refl _) (hsub r1 (by simp))
    obtain ⟨lcs, hcs⟩ := ok_sub (hsub (.tuple cs) (by simp))
    have ok2 : okD (n + 2) 3 (.tuple cs) = true := okD_mono (by omega) (Nat.le_refl _) (hsub _ (by simp))
    have okr : ∀ x ∈ [r0, r1, .tuple cs], okD (n + 2) 3 x = true := fun x hx => okD_mono (by omega) (Nat.le_refl _) (hsub x hx)
    refine ⟨_, rfl, d, g, c, _, _, rfl, D, by omega, by decide, by decide, fun r H1 r0' r1' D1 mv1 => ?_⟩
    have ha1 := mv1 _ _ na.1 na.2 ha
    have hs1 := hs.mv mv1
    refine ⟨_, rfl, rfl, _, rfl, ?_⟩
    by_cases w0 : r = 0
    · subst w0
      refine iteT ?_
      refine ⟨_, rfl, _, rfl, _, rfl, slA_sd D1 hs1 fun p1 H2 s2 q1 => ?_⟩
      have D2 := D1.same s2
      refine ⟨_, rfl, (by show 0 ≤ sizeLine; decide), fun e1 he1 => ⟨(by show 1 ≤ sizeLine; decide), fun e2 he2 => ?_⟩⟩
      have t1 := same_new (o := .tup []) he1
      have t2 := same_new (o := .tup [.ref e1]) he2
      have D3 := (D2.same t1).same t2
      have S3 := (s2.trans t1).trans t2
      refine catA_sd D3 (hs1.same S3) (Sd.tup (D2.same t1) he2 (.cons (Sd.tup D2 he1 .nil) .nil)) (by show 3 + 1 ≤ 1000; decide) fun p2 H4 s4 q2 => ?_
      have D4 := D3.same s4
      have S4 := S3.trans s4
      refine ⟨_, rfl, a, xs, rfl, .inr (.inl (.inl (S4 _ _ ha1))), fun p3 hp3 => ?_⟩
      have q3 := Sd.lst D4 hp3 ((hall.mv mv1).same S4)
      have t3 := same_new (o := .lst xs) hp3
      have D5 := D4.same t3
      have S5 := S4.trans t3
      refine ⟨(by show 1 ≤ sizeLine; decide), fun e3 he3 => ?_⟩
      have t4 := same_new (o := .tup [.int 5]) he3
      have D6 := D5.same t4
      have S6 := S5.trans t4
      refine ⟨_, rfl, _, rfl, ?_⟩
      unfold tNoPart
      refine slA_sd D6 (hs1.same S6) fun p4 H7 s7 q4 => ?_
      refine catA_sd (D6.same s7) ((Sd.tup D5 he3 (.cons (.int 5) .nil)).same s7) q4 (by have := cut_len [r0, r1, .tuple cs] (some 1) none; simp only [List.length_cons, List.length_nil] at this ⊢; omega) fun p5 H8 s8 q5 => ?_
      have S8 := (S6.trans s7).trans s8
      have D8 := D1.same S8
      refine ⟨(by show 1 ≤ sizeLine; decide), fun e4 he4 => ?_⟩
      have t5 := same_new (o := .tup [.non]) he4
      have S9 := S8.trans t5
      have D9 := D1.same S9
      refine ⟨_, rfl, _, rfl, ?_⟩
      refine slA_sd D9 (hs1.same S9) fun p6 H10 s10 q6 => ?_
      refine catA_sd (D9.same s10) ((Sd.tup D8 he4 (.cons .non .nil)).same s10) q6 (by have := cut_len [r0, r1, .tuple cs] (some 1) none; simp only [List.length_cons, List.length_nil] at this ⊢; omega) fun p7 H11 s11 q7 => ?_
      refine ⟨(by show 6 ≤ sizeLine; decide), fun L hL => ?_⟩
      have S11 := (S9.trans s10).trans s11
      have D11 := D1.same S11
      have tL := same_new (o := .lst [.ref p1, .ref p2, .ref p3, .non, .ref p5, .ref p7]) hL
      have nL := dr_new D11 hL
      have S12 := S11.trans tL
      refine ⟨d, g, c, _, D11.same tL, by omega, .inr ⟨L, _, rfl, upd_same, nL.2.1, by show 0 < 6; decide, by show 6 ≤ 1000; decide, fun x H13 hx D13 mv13 => ?_⟩⟩
      have fin : ∀ dx, okD (n + 2) 4 dx = true → Sd d g (upd H11 L (.lst [.ref p1, .ref p2, .ref p3, .non, .ref p5, .ref p7])) x dx → Q x H13 := fun dx h1 h2 => k x dx H13 h1 (h2.mv mv13) (D13.mono (by omega)) ((mv1.trans (Mv.same S12)).trans mv13)
      have cl := cut_len [r0, r1, .tuple cs]
      simp only [List.length_cons, List.length_nil] at cl
      simp only [List.mem_cons, List.not_mem_nil, or_false] at hx
      rcases hx with rfl | rfl | rfl | rfl | rfl | rfl
      · refine fin _ (okT (by have := cl none (some 2); omega) fun x hx => okr x (cut_mem hx)) (((((((((q1.same t1).same t2).same s4).same t3).same t4).same s7).same s8).same (t5.trans (s10.trans s11))).same tL)
      · refine fin _ (okT (by show 3 + 1 ≤ n + 2; omega) fun x hx => ?_) (((((((q2.same t3).same t4).same s7).same s8).same t5).same (s10.trans s11)).same tL)
        rcases List.mem_append.mp hx with hx | hx
        · exact okr x hx
        · rw [List.mem_singleton.mp hx]
          exact okT (Nat.zero_le _) (fun y hy => nomatch hy)
      · exact fin _ (okL (by show 3 ≤ n + 2; omega) okr) (((((q3.same t4).same s7).same s8).same (t5.trans (s10.trans s11))).same tL)
      · exact fin .none rfl .non
      · refine fin _ (okT (by have := cl (some 1) none; simp only [List.length_append, List.length_cons, List.length_nil]; omega) fun x hx => ?_) ((q5.same (t5.trans (s10.trans s11))).same tL)
        rcases List.mem_append.mp hx with hx | hx
        · rw [List.mem_singleton.mp hx]; rfl
        · exact okr x (cut_mem hx)
      · refine fin _ (okT (by have := cl (some 1) none; simp only [List.length_append, List.length_cons, List.length_nil]; omega) fun x hx => ?_) (q7.same tL)
        rcases List.mem_append.mp hx with hx | hx
        · rw [List.mem_singleton.mp hx]; rfl
        · exact okr x (cut_mem hx)
    · rw [decide_eq_false (show ¬ V.int r = V.int 0 from fun e => w0 (by injection e))]
      refine iteF ?_
      obtain ⟨u0, e0, g0⟩ : ∃ v, xs[0]? = some v ∧ Sd d g H v r0 := by
        obtain ⟨v, dd, h1, h2, q⟩ := hall.get2 (i := 0) (by show 0 < 3; decide)
        cases h2
        exact ⟨v, h1, q⟩
      obtain ⟨u1, e1, g1⟩ : ∃ v, xs[1]? = some v ∧ Sd d g H v r1 := by
        obtain ⟨v, dd, h1, h2, q⟩ := hall.get2 (i := 1) (by show 1 < 3; decide)
        cases h2
        exact ⟨v, h1, q⟩
      obtain ⟨u2, e2, g2⟩ : ∃ v, xs[2]? = some v ∧ Sd d g H v (.tuple cs) := by
        obtain ⟨v, dd, h1, h2, q⟩ := hall.get2 (i := 2) (by show 2 < 3; decide)
        cases h2
        exact ⟨v, h1, q⟩
      have three : ∀ (x0 x1 x2 : V) (y0 y1 y2 : PyData) (H3 : Hp) (p : Addr), okD (n + 2) 3 y0 = true → okD (n + 2) 3 y1 = true → okD (n + 2) 3 y2 = true → Sd d g H3 x0 y0 → Sd d g H3 x1 y1 → Sd d g H3 x2 y2 → Dr H3 d g c (m + 3) → Mv d g H H3 → H3 p = none → Q (.ref p) (upd H3 p (.tup [x0, x1, x2])) := by
        intro x0 x1 x2 y0 y1 y2 H3 p o0 o1 o2 q0 q1 q2 D3 mv3 hp
        refine k _ (.tuple [y0, y1, y2]) _ (okT (by show 3 ≤ n + 2; omega) fun x hx => ?_) (Sd.tup D3 hp (.cons q0 (.cons q1 (.cons q2 .nil)))) (D3.same (same_new hp)) (mv3.trans (Mv.same (same_new hp)))
        simp only [List.mem_cons, List.not_mem_nil, or_false] at hx
        rcases hx with rfl | rfl | rfl
        · exact o0
        · exact o1
        · exact o2
      refine ⟨_, rfl, rfl, _, rfl, ?_⟩
      by_cases w1 : r = 1
      · subst w1
        refine iteT ?_
        refine ⟨_, rfl, a, _, _, _, rfl, rfl, .inl (.inl ha1), atI_nat e0, _, rfl, (by show 1 ≤ sizeLine; decide), fun a1 b1 => ⟨(by show 1 ≤ sizeLine; decide), fun a2 b2 => ⟨(by show 2 ≤ sizeLine; decide), fun a3 b3 => ⟨(by show 1 ≤ sizeLine; decide), fun a4 b4 => ⟨(by show 1 ≤ sizeLine; decide), fun a5 b5 => ⟨(by show 7 ≤ sizeLine; decide), fun L hL => ?_⟩⟩⟩⟩⟩⟩
        have t1 := same_new (o := .lst [.str "a"]) b1
        have t2 := same_new (o := .tup [.int 5]) b2
        have t3 := same_new (o := .tup [.str "a", .non]) b3
        have t4 := same_new (o := .tup [.bl true]) b4
        have t5 := same_new (o := .tup [.str ""]) b5
        have tL := same_new (o := .lst [.non, .ref a1, .str "a", .ref a2, .ref a3, .ref a4, .ref a5]) hL
        have S := ((((t1.trans t2).trans t3).trans t4).trans t5).trans tL
        have c1 := D1.same t1
        have c2 := c1.same t2
        have c3 := c2.same t3
        have c4 := c3.same t4
        have c5 := c4.same t5
        have f1 := ((((((Sd.lst D1 b1 (.cons (.str _) .nil)).same t2).same t3).same t4).same t5).same tL)
        have f2 := (((((Sd.tup c1 b2 (.cons (.int _) .nil)).same t3).same t4).same t5).same tL)
        have f3 := ((((Sd.tup c2 b3 (.cons (.str _) (.cons .non .nil))).same t4).same t5).same tL)
        have f4 := (((Sd.tup c3 b4 (.cons (.bl _) .nil)).same t5).same tL)
        have f5 := ((Sd.tup c4 b5 (.cons (.str _) .nil)).same tL)
        have nL := dr_new c5 hL
        refine ⟨d, g, c, _, c5.same tL, by omega, .inr ⟨L, _, rfl, upd_same, nL.2.1, by show 0 < 7; decide, by show 7 ≤ 1000; decide, fun x H3 hx D3 mv3 => ?_⟩⟩
        have mvA := (mv1.trans (Mv.same S)).trans mv3
        refine ⟨_, rfl, a, _, _, _, rfl, rfl, .inl (.inl (mvA _ _ na.1 na.2 ha)), atI_nat e2, (by show 3 ≤ sizeLine; decide), fun p hp => ?_⟩
        obtain ⟨dx, ox, qx⟩ : ∃ dx, okD (n + 2) 3 dx = true ∧ Sd d g H3 x dx := by
          have up : ∀ {dx : PyData}, okD 2 1 dx = true → okD (n + 2) 3 dx = true := fun h => okD_mono (by omega) (by decide) h
          simp only [List.mem_cons, List.not_mem_nil, or_false] at hx
          rcases hx with rfl | rfl | rfl | rfl | rfl | rfl | rfl
          · exact ⟨.none, rfl, .non⟩
          · exact ⟨_, up (by decide +kernel), f1.mv mv3⟩
          · exact ⟨_, up (by decide +kernel), .str _⟩
          · exact ⟨_, up (by decide +kernel), f2.mv mv3⟩
          · exact ⟨_, up (by decide +kernel), f3.mv mv3⟩
          · exact ⟨_, up (by decide +kernel), f4.mv mv3⟩
          · exact ⟨_, up (by decide +kernel), f5.mv mv3⟩
        exact three _ _ _ _ _ _ H3 p ok0 ox ok2 (g0.mv mvA) qx (g2.mv mvA) (D3.mono (by omega)) mvA hp
      · rw [decide_eq_false (show ¬ V.int r = V.int 1 from fun e => w1 (by injection e))]
        refine iteF ?_
        refine ⟨_, rfl, rfl, _, rfl, ?_⟩
        by_cases w2 : r = 2
        · subst w2
          refine iteT ?_
          obtain ⟨a2, xs2, rfl, ha2, hall2⟩ := (g2.mv mv1).tupAt D1
          refine ⟨_, rfl, a, _, _, _, rfl, rfl, .inl (.inl ha1), atI_nat e0, _, rfl, a, _, _, _, rfl, rfl, .inl (.inl ha1), atI_nat e1, _, rfl, _, rfl, a, _, _, _, rfl, rfl, .inl (.inl ha1), atI_nat e2, a2, xs2, rfl, .inr (.inl (.inl ha2)), fun p3 hp3 => ⟨(by show 4 ≤ sizeLine; decide), fun L hL => ?_⟩⟩
          have t1 := same_new (o := .lst xs2) hp3
          have tL := same_new (o := .lst [.non, .str "a", .ref p3, .int 0]) hL
          have f1 := (Sd.lst D1 hp3 hall2).same tL
          have c1 := D1.same t1
          have nL := dr_new c1 hL
          refine ⟨d, g, c, _, c1.same tL, by omega, .inr ⟨L, _, rfl, upd_same, nL.2.1, by show 0 < 4; decide, by show 4 ≤ 1000; decide, fun x H3 hx D3 mv3 => ?_⟩⟩
          have mvA := (mv1.trans (Mv.same (t1.trans tL))).trans mv3
          refine ⟨(by show 3 ≤ sizeLine; decide), fun p hp => ?_⟩
          obtain ⟨dx, ox, qx⟩ : ∃ dx, okD (n + 2) 3 dx = true ∧ Sd d g H3 x dx := by
            simp only [List.mem_cons, List.not_mem_nil, or_false] at hx
            rcases hx with rfl | rfl | rfl | rfl
            · exact ⟨.none, rfl, .non⟩
            · exact ⟨.str "a", okD_mono (n := 0) (k := 0) (by omega) (by decide) (by decide +kernel), .str _⟩
            · exact ⟨_, okL (by omega) (fun x hx => okD_mono (by omega) (Nat.le_refl _) (hcs x hx)), f1.mv mv3⟩
            · exact ⟨.int 0, rfl, .int _⟩
          exact three _ _ _ _ _ _ H3 p ok0 ok1 ox (g0.mv mvA) (g1.mv mvA) qx (D3.mono (by omega)) mvA hp
        · rw [decide_eq_false (show ¬ V.int r = V.int 2 from fun e => w2 (by injection e))]
          refine iteF ?_
          obtain ⟨a2, xs2, rfl, ha2, hall2⟩ := (g2.mv mv1).tupAt D1
          have l2 := hall2.len
          refine ⟨_, rfl, _, rfl, a, _, _, _, rfl, rfl, .inl (.inl ha1), atI_nat e2, _, xs2.length, rfl, .inr ⟨_, .inl (.inl ha2), rfl⟩, _, _, rfl, rfl, d, g, c, _, _, rfl, D1, by omega, by omega, by omega, fun i H2 i0 i1 D2 mv2 => ?_⟩
          have mvB := mv1.trans mv2
          have ha3 := mvB _ _ na.1 na.2 ha
          have gc := g2.mv mvB
          refine ⟨_, rfl, a, _, _, _, rfl, rfl, .inl (.inl ha3), atI_nat e0, _, rfl, a, _, _, _, rfl, rfl, .inl (.inl ha3), atI_nat e1, _, rfl, a, _, _, _, rfl, rfl, .inl (.inl ha3), atI_nat e2, _, rfl, _, rfl, slA_sd D2 gc fun p1 H3 s3 q1 => ?_⟩
          refine ⟨_, rfl, _, rfl, d, g, c, _, kk, rfl, D2.same s3, by omega, hk, fun x dx H4 ox qx D4 mv4 => ?_⟩
          refine ⟨(by show 1 ≤ sizeLine; decide), fun e he => ?_⟩
          have te := same_new (o := .tup [x]) he
          have D5 := D4.same te
          have cl1 := cut_len cs none (some i)
          refine catA_sd D5 ((q1.mv mv4).same te) (Sd.tup D4 he (.cons qx .nil)) (by simp only [List.length_cons, List.length_nil]; omega) fun p2 H6 s6 q2 => ?_
          have mvC := (((mvB.trans (Mv.same s3)).trans mv4).trans (Mv.same te)).trans (Mv.same s6)
          have D6 := D5.same s6
          refine ⟨_, rfl, a, _, _, _, rfl, rfl, .inl (.inl (mvC _ _ na.1 na.2 ha)), atI_nat e2, _, rfl, _, rfl, ?_⟩
          unfold tNoPart
          refine slA_sd D6 (g2.mv mvC) fun p3 H7 s7 q3 => ?_
          have D7 := D6.same s7
          have cl2 := cut_len cs (some i) none
          refine catA_sd D7 (q2.same s7) q3 (by simp only [List.length_append, List.length_cons, List.length_nil]; omega) fun p4 H8 s8 q4 => ?_
          have mvD := (mvC.trans (Mv.same s7)).trans (Mv.same s8)
          refine ⟨(by show 3 ≤ sizeLine; decide), fun p hp => ?_⟩
          refine three _ _ _ _ _ _ H8 p ok0 ok1 ?_ (g0.mv mvD) (g1.mv mvD) q4 ((D7.same s8).mono (by omega)) mvD hp
          refine okT ?_ fun y hy => ?_
          · obtain ⟨j, rfl⟩ := Int.eq_ofNat_of_zero_le i0
            have := cut_two cs j
            simp only [List.length_append, List.length_cons, List.length_nil]
            omega
          · rcases List.mem_append.mp hy with hy | hy
            · rcases List.mem_append.mp hy with hy | hy
              · exact okD_mono (by omega) (Nat.le_refl _) (hcs y (cut_mem hy))
              · rw [List.mem_singleton.mp hy]
                exact okD_mono (by omega) (by decide) ox
            · exact okD_mono (by omega) (Nat.le_refl _) (hcs y (cut_mem hy))
end
end Sn

/-! ## law_k42: the parts spoilt -/
namespace Sn
open PySem PySem.Spec PyProof.Rows L2 TL
theorem cut_three (ds : List PyData) (j : Nat) : (cutD ds none (some (j : Int))).length + (cutD ds (some ((j : Int) + 1)) none).length ≤ ds.length := by
  unfold cutD
  have e2 : HT.sIx ds.length ds.length (some (j : Int)) = min j ds.length := HT.sIx_nat _ _ j
  have e1 : HT.sIx ds.length 0 (some ((j : Int) + 1)) = min (j + 1) ds.length := HT.sIx_nat _ _ (j + 1)
  have e3 : HT.sIx ds.length 0 none = 0 := HT.sIx_none _ _
  have e4 : HT.sIx ds.length ds.length none = ds.length := HT.sIx_none _ _
  rw [e1, e2, e3, e4]
  simp only [List.length_take, List.length_drop]
  omega
theorem SdA.last {d g : Addr} {H : Hp} {xs : List V} {ri : List PyData} {rl : PyData} (a : SdA d g H xs (ri ++ [rl])) : ∃ xi xl, xs = xi ++ [xl] ∧ SdA d g H xi ri ∧ Sd d g H xl rl := by
  have l := a.len
  rw [List.length_append] at l
  have hlt : ri.length < xs.length := by rw [l]; show ri.length < ri.length + 1; omega
  obtain ⟨dd, e, q⟩ := a.get (List.getElem?_eq_getElem hlt)
  rw [List.getElem?_append_right (Nat.le_refl _), Nat.sub_self] at e
  cases e
  refine ⟨xs.take ri.length, xs[ri.length], ?_, ?_, q⟩
  · have h1 := List.take_append_getElem hlt
    rw [h1, List.take_of_length_le (by rw [l]; exact Nat.le_refl _)]
  · have := a.take ri.length
    rwa [List.take_left] at this
theorem row_small {n : Nat} {i : Int} {a b : PyData} {cs : List PyData} (h : dRow i (.tuple [a, b, .tuple cs]) = true) (o : okD n 5 (.tuple [a, b, .tuple cs]) = true) : okD n 4 (.tuple [a, b, .tuple cs]) = true := by
  simp only [dRow, Bool.and_eq_true] at h
  obtain ⟨l, hs⟩ := ok_sub o
  obtain ⟨lc, hc⟩ := ok_sub (hs (.tuple cs) (by simp))
  refine okT l fun x hx => ?_
  simp only [List.mem_cons, List.not_mem_nil, or_false] at hx
  rcases hx with rfl | rfl | rfl
  · have ha := hs x (by simp)
    cases x with
    | str z => exact ha
    | _ => cases h.1
  · have hb := hs x (by simp)
    cases x with
    | tuple ss =>
      obtain ⟨l2, h2⟩ := ok_sub hb
      refine okT l2 fun y hy => ?_
      have hy2 := h2 y hy
      have hs2 : isS y = true := by
        have := h.2.1
        simp only [dStrs, List.all_eq_true] at this
        exact this y hy
      cases y with
      | str z => exact hy2
      | _ => cases hs2
    | _ => cases h.2.1
  · refine okT lc fun y hy => ?_
    have hy2 := hc y hy
    have hs2 : dCh i y = true := by
      have := h.2.2
      simp only [dChs, List.all_eq_true] at this
      exact this y hy
    cases y with
    | str z => exact hy2
    | int z => exact hy2
    | _ => cases hs2
section
variable {P : Program} {w : World} {K : PySem.W.Frag} {mg : Str → Option Value} {base : Heap}
/-- four drawn parts -/
structure Four (d g : Addr) (H : Hp) (n : Nat) (v1 v2 v3 v4 : V) (d1 d2 d3 d4 : PyData) : Prop where
  q1 : Sd d g H v1 d1
  q2 : Sd d g H v2 d2
  q3 : Sd d g H v3 d3
  q4 : Sd d g H v4 d4
  o1 : okD n 6 d1 = true
  o2 : okD n 6 d2 = true
  o3 : okD n 6 d3 = true
  o4 : okD n 6 d4 = true
theorem Four.mv {d g : Addr} {H H' : Hp} {n m : Nat} {v1 v2 v3 v4 : V} {d1 d2 d3 d4 : PyData} (f : Four d g H n v1 v2 v3 v4 d1 d2 d3 d4) (v : Mv d g H H') (h : n ≤ m) : Four d g H' m v1 v2 v3 v4 d1 d2 d3 d4 :=
  ⟨f.q1.mv v, f.q2.mv v, f.q3.mv v, f.q4.mv v, okD_mono h (Nat.le_refl _) f.o1, okD_mono h (Nat.le_refl _) f.o2, okD_mono h (Nat.le_refl _) f.o3, okD_mono h (Nat.le_refl _) f.o4⟩
def spSpoilt : Sp := fun vs H Q _ => ∃ (d g c p : Addr) (m n : Nat) (v1 v2 v3 v4 : V) (d1 d2 d3 d4 : PyData), vs = [.ref d, .ref p] ∧ Dr H d g c m ∧ m ≤ 900000 ∧ 10 ≤ n ∧ n ≤ 300 ∧ H p = some (.tup [v1, v2, v3, v4]) ∧ Four d g H n v1 v2 v3 v4 d1 d2 d3 d4 ∧
  ∀ (p' : Addr) (u1 u2 u3 u4 : V) (e1 e2 e3 e4 : PyData) (H' : Hp), H' p' = some (.tup [u1, u2, u3, u4]) → Four d g H' (n + 3) u1 u2 u3 u4 e1 e2 e3 e4 → Dr H' d g c (m + 10) → Mv d g H H' → Q (.ref p') H'
theorem ok_spoilt (T : Txt K mg) : FnOk P w K mg base CX0 6 T.f_law_spoilt T.fd_law_spoilt ["_law_state", "_law_parts"] spSpoilt := by
  have GP : FnOk P w K mg base CX0 3 T.f_law_pick T.fd_law_pick ["_law_state", "_law_some"] spPick := ok_pick T
  have GT : FnOk P w K mg base CX0 2 T.f_law_take T.fd_law_take ["_law_state", "_law_size"] spTake := ok_take T
  have GO : FnOk P w K mg base CX0 4 T.f_law_odd T.fd_law_odd ["_law_state", "_law_k"] spOdd := ok_odd T
  have GR : FnOk P w K mg base CX0 3 T.f_law_is_row T.fd_law_is_row ["_law_value", "_law_k"] (spDK dRow) := ok_lrow T
  have GS : FnOk P w K mg base CX0 5 T.f_law_spoilt_row T.fd_law_spoilt_row ["_law_state", "_law_row", "_law_k"] spSRow := ok_srow T
  refine T.F_law_spoilt.ok sc_law_spoilt (fun vs H Q E h => ?_) (fun cdv A outer s H vs Q E hr h => ?_)
  · obtain ⟨d, g, c, p, m, n, v1, v2, v3, v4, d1, d2, d3, d4, rfl, _⟩ := h
    rfl
  · obtain ⟨d, g, c, p, m, n, v1, v2, v3, v4, d1, d2, d3, d4, rfl, D, hm, n10, n300, hp, F, k⟩ := h
    refine ⟨_, (pss_cons (ps_asg (pv 1) (pg_tup rfl (pgs_cons (pg_name (i := 2) sc_law_spoilt.nd rfl (Or.inl rfl)) (pgs_cons (pg_name (i := 3) sc_law_spoilt.nd rfl (Or.inl rfl)) (pgs_cons (pg_name (i := 4) sc_law_spoilt.nd rfl (Or.inl rfl)) (pgs_cons (pg_name (i := 5) sc_law_spoilt.nd rfl (Or.inl rfl)) pgs_nil))))))
      (pss_cons (ps_set (i := 6) sc_law_spoilt.nd rfl (Or.inl rfl) (pe_call (ok_take T) (hr.mono (by decide)) rfl T.g_law_take T.F_law_take.kp T.b_law_take .nil pass0 (pa_cons (pv 0) (pa_cons pe_int pa_nil))))
      (C8.pss_cut (ps_if (pt_cmpR op_eq (pv 6) pe_int (nomark _))
        (pss_cons (ps_set (i := 7) sc_law_spoilt.nd rfl (Or.inl rfl) (pe_lst (pa_cons (pe_tup (pa_cons pe_str (pa_cons pe_str pa_nil))) (pa_cons (pe_tup (pa_cons pe_str (pa_cons pe_str (pa_cons pe_str (pa_cons pe_str pa_nil))))) (pa_cons (pe_lst (pa_cons pe_str (pa_cons pe_str (pa_cons pe_str pa_nil)))) (pa_cons pe_non (pa_cons (pe_tup (pa_cons pe_str (pa_cons pe_int (pa_cons pe_str pa_nil)))) pa_nil)))))))
      (pss_one (ps_set (i := 2) sc_law_spoilt.nd rfl (Or.inl rfl) (pe_call (ok_pick T) (hr.mono (by decide)) rfl T.g_law_pick T.F_law_pick.kp T.b_law_pick .nil pass0 (pa_cons (pv 0) (pa_cons (pe_op op_cat (pv 7) (pe_lst (pa_cons (pe_tup (pa_cons pe_str (pa_cons pe_str (pa_cons pe_str pa_nil)))) (pa_cons pe_str (pa_cons (pe_tup (pa_cons pe_bl (pa_cons pe_str (pa_cons pe_str pa_nil)))) pa_nil))))) pa_nil))))))
        (pss_one (ps_if (pt_cmpR op_eq (pv 6) pe_int (nomark _))
        (pss_one (ps_set (i := 3) sc_law_spoilt.nd rfl (Or.inl rfl) (pe_call (ok_pick T) (hr.mono (by decide)) rfl T.g_law_pick T.F_law_pick.kp T.b_law_pick .nil pass0 (pa_cons (pv 0) (pa_cons (pe_lst (pa_cons pe_non (pa_cons (pe_lst (pa_cons pe_str pa_nil)) (pa_cons pe_str (pa_cons (pe_tup (pa_cons pe_str (pa_cons pe_int pa_nil))) (pa_cons (pe_tup (pa_cons pe_non pa_nil)) (pa_cons (pe_tup (pa_cons pe_str pa_nil)) (pa_cons (pe_tup (pa_cons (pe_op op_mulS pe_str pe_int) pa_nil)) (pa_cons pe_int pa_nil))))))))) pa_nil)))))
        (pss_one (ps_if (pt_cmpR op_eq (pv 6) pe_int (nomark _))
        (pss_one (ps_set (i := 5) sc_law_spoilt.nd rfl (Or.inl rfl) (pe_call (ok_pick T) (hr.mono (by decide)) rfl T.g_law_pick T.F_law_pick.kp T.b_law_pick .nil pass0 (pa_cons (pv 0) (pa_cons (pe_lst (pa_cons pe_non (pa_cons (pe_lst (pa_cons (pe_tup pa_nil) pa_nil)) (pa_cons (pe_tup (pa_cons (pe_lst (pa_cons pe_str pa_nil)) pa_nil)) (pa_cons (pe_tup (pa_cons pe_str pa_nil)) (pa_cons pe_int (pa_cons (pe_tup (pa_cons (pe_tup pa_nil) (pa_cons pe_non pa_nil))) (pa_cons (pe_lst pa_nil) pa_nil)))))))) pa_nil)))))
        (pss_one (ps_if (PW.pt (pw_and (pt_cmpR op_eq (pv 6) pe_int (nomark _)) (pw_and1 (pt_val (pe_callB (call_isiN (K := K)) (by rfl) T.z_isinstance (by decide +kernel) (pa_cons (pv 5) (pa_cons (pe_bltn (v := .ty "tuple") (by rfl) T.z_tuple (by decide +kernel) rfl) pa_nil)))))))
        (pss_cons (ps_par (i := 8) (j := 9) (by rfl) sc_law_spoilt.nd rfl rfl (by decide) rfl rfl (pa_cons (pe_call (ok_take T) (hr.mono (by decide)) rfl T.g_law_take T.F_law_take.kp T.b_law_take .nil pass0 (pa_cons (pv 0) (pa_cons (pe_op op_add (pe_callB (call_lenN (K := K)) (by rfl) T.z_len (by decide +kernel) (pa_cons (pv 5) pa_nil)) pe_int) pa_nil))) (pa_cons (pe_ifExp (pt_val (pe_callB (call_isiN (K := K)) (by rfl) T.z_isinstance (by decide +kernel) (pa_cons (pv 4) (pa_cons (pe_bltn (v := .ty "tuple") (by rfl) T.z_tuple (by decide +kernel) rfl) pa_nil)))) (pe_callB (call_lenN (K := K)) (by rfl) T.z_len (by decide +kernel) (pa_cons (pv 4) pa_nil)) pe_int) pa_nil)) (by rfl))
      (pss_one (ps_set (i := 5) sc_law_spoilt.nd rfl (Or.inl rfl) (pe_op op_catA (pe_op op_catA (pe_slice sl_tupA (pv 5) po_none (po_some (pv 8))) (pe_tup (pa_cons (pe_tup (pa_cons pe_str (pa_cons (pe_call (ok_odd T) (hr.mono (by decide)) rfl T.g_law_odd T.F_law_odd.kp T.b_law_odd .nil pass0 (pa_cons (pv 0) (pa_cons (pv 9) pa_nil))) pa_nil))) pa_nil))) (pe_slice sl_tupA (pv 5) (po_some (pv 8)) po_none)))))
        (pss_one (ps_if (PW.pt (pw_and (pt_val (pe_callB (call_isiN (K := K)) (by rfl) T.z_isinstance (by decide +kernel) (pa_cons (pv 4) (pa_cons (pe_bltn (v := .ty "tuple") (by rfl) T.z_tuple (by decide +kernel) rfl) pa_nil)))) (pw_and (pt_cmpR (op_neDK (K := K) hr.units) (pv 4) (pe_tup pa_nil) (nomark _)) (pw_and (pt_val (pe_callB (call_isiN (K := K)) (by rfl) T.z_isinstance (by decide +kernel) (pa_cons (pe_ix (ix_tupK (K := K)) (pv 4) (pe_un un_neg pe_int) (fun _ _ => rfl)) (pa_cons (pe_bltn (v := .ty "tuple") (by rfl) T.z_tuple (by decide +kernel) rfl) pa_nil)))) (pw_and1 (pt_cmpR op_eq (pe_callB (call_lenN (K := K)) (by rfl) T.z_len (by decide +kernel) (pa_cons (pe_ix (ix_tupK (K := K)) (pv 4) (pe_un un_neg pe_int) (fun _ _ => rfl)) pa_nil)) pe_int (nomark _)))))))
        (pss_cons (ps_set (i := 8) sc_law_spoilt.nd rfl (Or.inl rfl) (pe_call (ok_take T) (hr.mono (by decide)) rfl T.g_law_take T.F_law_take.kp T.b_law_take .nil pass0 (pa_cons (pv 0) (pa_cons (pe_callB (call_lenN (K := K)) (by rfl) T.z_len (by decide +kernel) (pa_cons (pv 4) pa_nil)) pa_nil))))
      (pss_one (ps_if (pt_val (pe_call (ok_lrow T) (hr.mono (by decide)) rfl T.g_law_is_row T.F_law_is_row.kp T.b_law_is_row .nil pass0 (pa_cons (pe_ix (ix_tupK (K := K)) (pv 4) (pv 8) (fun _ _ => rfl)) (pa_cons (pv 8) pa_nil))))
        (pss_one (ps_set (i := 4) sc_law_spoilt.nd rfl (Or.inl rfl) (pe_op op_catA (pe_op op_catA (pe_slice sl_tupA (pv 4) po_none (po_some (pv 8))) (pe_tup (pa_cons (pe_call (ok_srow T) (hr.mono (by decide)) rfl T.g_law_spoilt_row T.F_law_spoilt_row.kp T.b_law_spoilt_row .nil pass0 (pa_cons (pv 0) (pa_cons (pe_ix (ix_tupK (K := K)) (pv 4) (pv 8) (fun _ _ => rfl)) (pa_cons (pv 8) pa_nil)))) pa_nil))) (pe_slice sl_tupA (pv 4) (po_some (pe_op op_add (pv 8) pe_int)) po_none))))
        pss_nil)))
        (pss_one (ps_set (i := 4) sc_law_spoilt.nd rfl (Or.inl rfl) (pe_call (ok_pick T) (hr.mono (by decide)) rfl T.g_law_pick T.F_law_pick.kp T.b_law_pick .nil pass0 (pa_cons (pv 0) (pa_cons (pe_lst (pa_cons pe_non (pa_cons (pe_lst pa_nil) (pa_cons pe_int (pa_cons (pe_tup (pa_cons (pe_tup pa_nil) pa_nil)) (pa_cons (pe_tup (pa_cons pe_non pa_nil)) (pa_cons pe_str (pa_cons (pe_lst (pa_cons (pe_tup (pa_cons pe_str (pa_cons (pe_tup pa_nil) (pa_cons (pe_tup pa_nil) pa_nil)))) pa_nil)) pa_nil)))))))) pa_nil))))))))))))))
      (pss_one (ps_ret (pe_tup (pa_cons (pv 2) (pa_cons (pv 3) (pa_cons (pv 4) (pa_cons (pv 5) pa_nil)))))))))), ?_⟩
    refine ⟨_, rfl, p, _, rfl, .inl (.inl hp), rfl, _, _, rfl, _, _, rfl, _, _, rfl, _, _, rfl, rfl, ?_⟩
    refine ⟨_, rfl, d, g, c, _, _, rfl, D, by omega, by decide, by decide, fun r H1 r0 r1 D1 mv1 => ?_⟩
    have F1 := F.mv mv1 (show n ≤ n + 3 by omega)
    refine ⟨fun σ H2 => ∃ (u1 u2 u3 u4 : V) (e1 e2 e3 e4 : PyData) (x7 x8 x9 : Option V), σ = [some (.ref d), some (.ref p), some u1, some u2, some u3, some u4, some (.int r), x7, x8, x9] ∧ Four d g H2 (n + 3) u1 u2 u3 u4 e1 e2 e3 e4 ∧ Dr H2 d g c (m + 9) ∧ Mv d g H1 H2, ?_, ?_⟩
    · refine ⟨_, rfl, rfl, _, rfl, ?_⟩
      by_cases w0 : r = 0
      · subst w0
        refine iteT ?_
        refine ⟨(by show 2 ≤ sizeLine; decide), fun a1 b1 => ⟨(by show 4 ≤ sizeLine; decide), fun a2 b2 => ⟨(by show 3 ≤ sizeLine; decide), fun a3 b3 => ⟨(by show 3 ≤ sizeLine; decide), fun a4 b4 => ⟨(by show 5 ≤ sizeLine; decide), fun L hL => ?_⟩⟩⟩⟩⟩
        have t1 := same_new (o := .tup [.str "entry", .str "m"]) b1
        have t2 := same_new (o := .tup [.str "entry", .str "m", .str "a", .str "b"]) b2
        have t3 := same_new (o := .lst [.str "entry", .str "m", .str "a"]) b3
        have t4 := same_new (o := .tup [.str "entry", .int 5, .str "a"]) b4
        have t5 := same_new (o := .lst [.ref a1, .ref a2, .ref a3, .non, .ref a4]) hL
        have c1 := D1.same t1
        have c2 := c1.same t2
        have c3 := c2.same t3
        have c4 := c3.same t4
        have c5 := c4.same t5
        refine ⟨_, rfl, _, rfl, (by show 3 ≤ sizeLine; decide), fun a6 b6 => ⟨(by show 3 ≤ sizeLine; decide), fun a7 b7 => ⟨(by show 3 ≤ sizeLine; decide), fun M hM => ?_⟩⟩⟩
        have t6 := same_new (o := .tup [.str "", .str "", .str ""]) b6
        have t7 := same_new (o := .tup [.bl true, .str "m", .str "a"]) b7
        have t8 := same_new (o := .lst [.ref a6, .str "ema", .ref a7]) hM
        have c6 := c5.same t6
        have c7 := c6.same t7
        have c8 := c7.same t8
        refine ⟨L, M, _, _, rfl, rfl, (t6.trans (t7.trans t8)) _ _ upd_same, upd_same, (by show 5 + 3 ≤ sizeLine; decide), fun N hN => ?_⟩
        have t9 := same_new (o := .lst ([.ref a1, .ref a2, .ref a3, .non, .ref a4] ++ [.ref a6, .str "ema", .ref a7])) hN
        have nN := dr_new c8 hN
        refine ⟨d, g, c, _, c8.same t9, by omega, .inr ⟨N, _, rfl, upd_same, nN.2.1, by show 0 < 8; decide, by show 8 ≤ 1000; decide, fun x H3 hx D3 mv3 => ?_⟩⟩
        have S := ((((((((t1.trans t2).trans t3).trans t4).trans t5).trans t6).trans t7).trans t8).trans t9)
        have mvA := (Mv.same S).trans mv3
        obtain ⟨dx, ox, qx⟩ : ∃ dx, okD (n + 3) 6 dx = true ∧ Sd d g H3 x dx := by
          have up : ∀ {dx : PyData}, okD 4 2 dx = true → okD (n + 3) 6 dx = true := fun h => okD_mono (by omega) (by decide) h
          simp only [List.cons_append, List.nil_append, List.mem_cons, List.not_mem_nil, or_false] at hx
          rcases hx with rfl | rfl | rfl | rfl | rfl | rfl | rfl | rfl
          · exact ⟨_, up (by decide +kernel), ((Sd.tup D1 b1 (.cons (.str _) (.cons (.str _) .nil))).same (((((((t2.trans t3).trans t4).trans t5).trans t6).trans t7).trans t8).trans t9)).mv mv3⟩
          · exact ⟨_, up (by decide +kernel), ((Sd.tup c1 b2 (.cons (.str _) (.cons (.str _) (.cons (.str _) (.cons (.str _) .nil))))).same ((((((t3.trans t4).trans t5).trans t6).trans t7).trans t8).trans t9)).mv mv3⟩
          · exact ⟨_, up (by decide +kernel), ((Sd.lst c2 b3 (.cons (.str _) (.cons (.str _) (.cons (.str _) .nil)))).same (((((t4.trans t5).trans t6).trans t7).trans t8).trans t9)).mv mv3⟩
          · exact ⟨.none, rfl, .non⟩
          · exact ⟨_, up (by decide +kernel), ((Sd.tup c3 b4 (.cons (.str _) (.cons (.int _) (.cons (.str _) .nil)))).same ((((t5.trans t6).trans t7).trans t8).trans t9)).mv mv3⟩
          · exact ⟨_, up (by decide +kernel), ((Sd.tup c5 b6 (.cons (.str _) (.cons (.str _) (.cons (.str _) .nil)))).same ((t7.trans t8).trans t9)).mv mv3⟩
          · exact ⟨.str "ema", up (by decide +kernel), .str _⟩
          · exact ⟨_, up (by decide +kernel), ((Sd.tup c6 b7 (.cons (.bl _) (.cons (.str _) (.cons (.str _) .nil)))).same (t8.trans t9)).mv mv3⟩
        have F3 := F1.mv mvA (Nat.le_refl _)
        exact ⟨x, _, _, _, dx, _, _, _, _, _, _, rfl, ⟨qx, F3.q2, F3.q3, F3.q4, ox, F3.o2, F3.o3, F3.o4⟩, D3.mono (by omega), mvA⟩
      rw [decide_eq_false (show ¬ V.int r = V.int 0 from fun e => w0 (by injection e))]
      refine iteF ?_
      refine ⟨_, rfl, rfl, _, rfl, ?_⟩
      by_cases w1 : r = 1
      · subst w1
        refine iteT ?_
        refine ⟨_, rfl, (by show 1 ≤ sizeLine; decide), fun a1 b1 => ⟨(by show 2 ≤ sizeLine; decide), fun a2 b2 => ⟨(by show 1 ≤ sizeLine; decide), fun a3 b3 => ⟨(by show 1 ≤ sizeLine; decide), fun a4 b4 => ⟨"a", 200, rfl, rfl, by decide, by decide +kernel, by decide +kernel, by decide +kernel, (by show 1 ≤ sizeLine; decide), fun a5 b5 => ⟨(by show 8 ≤ sizeLine; decide), fun L hL => ?_⟩⟩⟩⟩⟩⟩
        have t1 := same_new (o := .lst [.str "a"]) b1
        have t2 := same_new (o := .tup [.str "a", .int 5]) b2
        have t3 := same_new (o := .tup [.non]) b3
        have t4 := same_new (o := .tup [.str ""]) b4
        have t5 := same_new (o := .tup [.str (reps "a" 200)]) b5
        have t6 := same_new (o := .lst [.non, .ref a1, .str "ab", .ref a2, .ref a3, .ref a4, .ref a5, .int 0]) hL
        have c1 := D1.same t1
        have c2 := c1.same t2
        have c3 := c2.same t3
        have c4 := c3.same t4
        have c5 := c4.same t5
        have nN := dr_new c5 hL
        refine ⟨d, g, c, _, c5.same t6, by omega, .inr ⟨L, _, rfl, upd_same, nN.2.1, by show 0 < 8; decide, by show 8 ≤ 1000; decide, fun x H3 hx D3 mv3 => ?_⟩⟩
        have S := ((((t1.trans t2).trans t3).trans t4).trans t5).trans t6
        have mvA := (Mv.same S).trans mv3
        obtain ⟨dx, ox, qx⟩ : ∃ dx, okD (n + 3) 6 dx = true ∧ Sd d g H3 x dx := by
          have up : ∀ {dx : PyData}, okD 4 2 dx = true → okD (n + 3) 6 dx = true := fun h => okD_mono (by omega) (by decide) h
          simp only [List.mem_cons, List.not_mem_nil, or_false] at hx
          rcases hx with rfl | rfl | rfl | rfl | rfl | rfl | rfl | rfl
          · exact ⟨.none, rfl, .non⟩
          · exact ⟨_, up (by decide +kernel), ((Sd.lst D1 b1 (.cons (.str _) .nil)).same ((((t2.trans t3).trans t4).trans t5).trans t6)).mv mv3⟩
          · exact ⟨.str "ab", up (by decide +kernel), .str _⟩
          · exact ⟨_, up (by decide +kernel), ((Sd.tup c1 b2 (.cons (.str _) (.cons (.int _) .nil))).same (((t3.trans t4).trans t5).trans t6)).mv mv3⟩
          · exact ⟨_, up (by decide +kernel), ((Sd.tup c2 b3 (.cons .non .nil)).same ((t4.trans t5).trans t6)).mv mv3⟩
          · exact ⟨_, up (by decide +kernel), ((Sd.tup c3 b4 (.cons (.str _) .nil)).same (t5.trans t6)).mv mv3⟩
          · exact ⟨_, up (by decide +kernel), ((Sd.tup c4 b5 (.cons (.str _) .nil)).same t6).mv mv3⟩
          · exact ⟨.int 0, rfl, .int _⟩
        have F3 := F1.mv mvA (Nat.le_refl _)
        exact ⟨_, x, _, _, _, dx, _, _, _, _, _, rfl, ⟨F3.q1, qx, F3.q3, F3.q4, F3.o1, ox, F3.o3, F3.o4⟩, D3.mono (by omega), mvA⟩
      rw [decide_eq_false (show ¬ V.int r = V.int 1 from fun e => w1 (by injection e))]
      refine iteF ?_
      refine ⟨_, rfl, rfl, _, rfl, ?_⟩
      by_cases w2 : r = 2
      · subst w2
        refine iteT ?_
        refine ⟨_, rfl, (by show 0 ≤ sizeLine; decide), fun a1 b1 => ⟨(by show 1 ≤ sizeLine; decide), fun a2 b2 => ⟨(by show 1 ≤ sizeLine; decide), fun a3 b3 => ⟨(by show 1 ≤ sizeLine; decide), fun a4 b4 => ⟨(by show 1 ≤ sizeLine; decide), fun a5 b5 => ⟨(by show 0 ≤ sizeLine; decide), fun a6 b6 => ⟨(by show 2 ≤ sizeLine; decide), fun a7 b7 => ⟨(by show 0 ≤ sizeLine; decide), fun a8 b8 => ⟨(by show 7 ≤ sizeLine; decide), fun L hL => ?_⟩⟩⟩⟩⟩⟩⟩⟩⟩
        have t1 := same_new (o := .tup []) b1
        have t2 := same_new (o := .lst [.ref a1]) b2
        have t3 := same_new (o := .lst [.str "a"]) b3
        have t4 := same_new (o := .tup [.ref a3]) b4
        have t5 := same_new (o := .tup [.str "a"]) b5
        have t6 := same_new (o := .tup []) b6
        have t7 := same_new (o := .tup [.ref a6, .non]) b7
        have t8 := same_new (o := .lst []) b8
        have t9 := same_new (o := .lst [.non, .ref a2, .ref a4, .ref a5, .int 0, .ref a7, .ref a8]) hL
        have c1 := D1.same t1
        have c2 := c1.same t2
        have c3 := c2.same t3
        have c4 := c3.same t4
        have c5 := c4.same t5
        have c6 := c5.same t6
        have c7 := c6.same t7
        have c8 := c7.same t8
        have nN := dr_new c8 hL
        refine ⟨d, g, c, _, c8.same t9, by omega, .inr ⟨L, _, rfl, upd_same, nN.2.1, by show 0 < 7; decide, by show 7 ≤ 1000; decide, fun x H3 hx D3 mv3 => ?_⟩⟩
        have S := ((((((((t1.trans t2).trans t3).trans t4).trans t5).trans t6).trans t7).trans t8).trans t9)
        have mvA := (Mv.same S).trans mv3
        obtain ⟨dx, ox, qx⟩ : ∃ dx, okD (n + 3) 6 dx = true ∧ Sd d g H3 x dx := by
          have up : ∀ {dx : PyData}, okD 4 2 dx = true → okD (n + 3) 6 dx = true := fun h => okD_mono (by omega) (by decide) h
          simp only [List.mem_cons, List.not_mem_nil, or_false] at hx
          rcases hx with rfl | rfl | rfl | rfl | rfl | rfl | rfl
          · exact ⟨.none, rfl, .non⟩
          · exact ⟨_, up (by decide +kernel), ((Sd.lst c1 b2 (.cons (Sd.tup D1 b1 .nil) .nil)).same ((((((t3.trans t4).trans t5).trans t6).trans t7).trans t8).trans t9)).mv mv3⟩
          · exact ⟨_, up (by decide +kernel), ((Sd.tup c3 b4 (.cons (Sd.lst c2 b3 (.cons (.str _) .nil)) .nil)).same ((((t5.trans t6).trans t7).trans t8).trans t9)).mv mv3⟩
          · exact ⟨_, up (by decide +kernel), ((Sd.tup c4 b5 (.cons (.str _) .nil)).same (((t6.trans t7).trans t8).trans t9)).mv mv3⟩
          · exact ⟨.int 0, rfl, .int _⟩
          · exact ⟨_, up (by decide +kernel), ((Sd.tup c6 b7 (.cons (Sd.tup c5 b6 .nil) (.cons .non .nil))).same (t8.trans t9)).mv mv3⟩
          · exact ⟨_, up (by decide +kernel), ((Sd.lst c7 b8 .nil).same t9).mv mv3⟩
        have F3 := F1.mv mvA (Nat.le_refl _)
        exact ⟨_, _, _, x, _, _, _, dx, _, _, _, rfl, ⟨F3.q1, F3.q2, F3.q3, qx, F3.o1, F3.o2, F3.o3, ox⟩, D3.mono (by omega), mvA⟩
      rw [decide_eq_false (show ¬ V.int r = V.int 2 from fun e => w2 (by injection e))]
      refine iteF ?_
      refine ⟨_, rfl, rfl, _, rfl, ?_⟩
      by_cases w3 : r = 3
      · subst w3
        refine iteT ?_
        refine ⟨_, rfl, _, .ty "tuple", _, .type "tuple", _, rfl, .ty "tuple", F1.q4.at.ty, kit_t, _, rfl, ?_⟩
        cases e4 : isT d4 with
        | false =>
          refine iteF ?_
          clear e4
          refine ⟨_, rfl, _, .ty "tuple", _, .type "tuple", _, rfl, .ty "tuple", F1.q3.at.ty, kit_t, _, rfl, ?_⟩
          cases e3 : isT d3 with
          | false =>
            refine iteF (iteF ?_)
            have DD := D1
            have mvD := Mv.refl d g H1
            refine ⟨_, rfl, (by show 0 ≤ sizeLine; decide), fun a1 b1 => ⟨(by show 0 ≤ sizeLine; decide), fun a2 b2 => ⟨(by show 1 ≤ sizeLine; decide), fun a3 b3 => ⟨(by show 1 ≤ sizeLine; decide), fun a4 b4 => ⟨(by show 0 ≤ sizeLine; decide), fun a5 b5 => ⟨(by show 0 ≤ sizeLine; decide), fun a6 b6 => ⟨(by show 3 ≤ sizeLine; decide), fun a7 b7 => ⟨(by show 1 ≤ sizeLine; decide), fun a8 b8 => ⟨(by show 7 ≤ sizeLine; decide), fun L hL => ?_⟩⟩⟩⟩⟩⟩⟩⟩⟩
            have t1 := same_new (o := .lst []) b1
            have t2 := same_new (o := .tup []) b2
            have t3 := same_new (o := .tup [.ref a2]) b3
            have t4 := same_new (o := .tup [.non]) b4
            have t5 := same_new (o := .tup []) b5
            have t6 := same_new (o := .tup []) b6
            have t7 := same_new (o := .tup [.str "m.a", .ref a5, .ref a6]) b7
            have t8 := same_new (o := .lst [.ref a7]) b8
            have t9 := same_new (o := .lst [.non, .ref a1, .int 0, .ref a3, .ref a4, .str "a", .ref a8]) hL
            have c1 := DD.same t1
            have c2 := c1.same t2
            have c3 := c2.same t3
            have c4 := c3.same t4
            have c5 := c4.same t5
            have c6 := c5.same t6
            have c7 := c6.same t7
            have c8 := c7.same t8
            have nN := dr_new c8 hL
            refine ⟨d, g, c, _, c8.same t9, by omega, .inr ⟨L, _, rfl, upd_same, nN.2.1, by show 0 < 7; decide, by show 7 ≤ 1000; decide, fun x H3 hx D3 mv3 => ?_⟩⟩
            have S := ((((((((t1.trans t2).trans t3).trans t4).trans t5).trans t6).trans t7).trans t8).trans t9)
            have mvA := (mvD.trans (Mv.same S)).trans mv3
            obtain ⟨dx, ox, qx⟩ : ∃ dx, okD (n + 3) 6 dx = true ∧ Sd d g H3 x dx := by
              have up : ∀ {dx : PyData}, okD 4 3 dx = true → okD (n + 3) 6 dx = true := fun h => okD_mono (by omega) (by decide) h
              simp only [List.mem_cons, List.not_mem_nil, or_false] at hx
              rcases hx with rfl | rfl | rfl | rfl | rfl | rfl | rfl
              · exact ⟨.none, rfl, .non⟩
              · exact ⟨_, up (by decide +kernel), ((Sd.lst DD b1 .nil).same (((((((t2.trans t3).trans t4).trans t5).trans t6).trans t7).trans t8).trans t9)).mv mv3⟩
              · exact ⟨.int 0, rfl, .int _⟩
              · exact ⟨_, up (by decide +kernel), ((Sd.tup c2 b3 (.cons (Sd.tup c1 b2 .nil) .nil)).same (((((t4.trans t5).trans t6).trans t7).trans t8).trans t9)).mv mv3⟩
              · exact ⟨_, up (by decide +kernel), ((Sd.tup c3 b4 (.cons .non .nil)).same ((((t5.trans t6).trans t7).trans t8).trans t9)).mv mv3⟩
              · exact ⟨.str "a", up (by decide +kernel), .str _⟩
              · exact ⟨_, up (by decide +kernel), ((Sd.lst c7 b8 (.cons (Sd.tup c6 b7 (.cons (.str _) (.cons ((Sd.tup c4 b5 .nil).same t6) (.cons (Sd.tup c5 b6 .nil) .nil)))) .nil)).same t9).mv mv3⟩
            have F3 := F1.mv mvA (Nat.le_refl _)
            exact ⟨_, _, x, _, _, _, dx, _, _, _, _, rfl, ⟨F3.q1, F3.q2, qx, F3.q4, F3.o1, F3.o2, ox, F3.o4⟩, D3.mono (by omega), mvA⟩
          | true =>
          refine iteT ?_
          obtain ⟨rs, rfl⟩ : ∃ rs, d3 = .tuple rs := by cases d3 <;> first | exact ⟨_, rfl⟩ | cases e3
          obtain ⟨a3, xs3, rfl, ha3, hall3⟩ := F1.q3.tupAt D1
          obtain ⟨lrs, hrs⟩ := ok_sub F.o3
          refine ⟨_, rfl, (by show 0 ≤ sizeLine; decide), fun z0 hz0 => ?_⟩
          have tz := same_new (o := .tup []) hz0
          have Dz := D1.same tz
          refine ⟨_, _, (F1.q3.same tz).at.dp, (Sd.tup D1 hz0 SdA.nil).at.dp, okD_shaped F1.o3 (by decide), rfl, _, rfl, ?_⟩
          rcases List.eq_nil_or_concat rs with rfl | ⟨ri, rl, rfl⟩
          · refine iteDF rfl (iteF ?_)
            have DD := Dz
            have mvD := Mv.same (d := d) (g := g) tz
            refine ⟨_, rfl, (by show 0 ≤ sizeLine; decide), fun a1 b1 => ⟨(by show 0 ≤ sizeLine; decide), fun a2 b2 => ⟨(by show 1 ≤ sizeLine; decide), fun a3 b3 => ⟨(by show 1 ≤ sizeLine; decide), fun a4 b4 => ⟨(by show 0 ≤ sizeLine; decide), fun a5 b5 => ⟨(by show 0 ≤ sizeLine; decide), fun a6 b6 => ⟨(by show 3 ≤ sizeLine; decide), fun a7 b7 => ⟨(by show 1 ≤ sizeLine; decide), fun a8 b8 => ⟨(by show 7 ≤ sizeLine; decide), fun L hL => ?_⟩⟩⟩⟩⟩⟩⟩⟩⟩
            have t1 := same_new (o := .lst []) b1
            have t2 := same_new (o := .tup []) b2
            have t3 := same_new (o := .tup [.ref a2]) b3
            have t4 := same_new (o := .tup [.non]) b4
            have t5 := same_new (o := .tup []) b5
            have t6 := same_new (o := .tup []) b6
            have t7 := same_new (o := .tup [.str "m.a", .ref a5, .ref a6]) b7
            have t8 := same_new (o := .lst [.ref a7]) b8
            have t9 := same_new (o := .lst [.non, .ref a1, .int 0, .ref a3, .ref a4, .str "a", .ref a8]) hL
            have c1 := DD.same t1
            have c2 := c1.same t2
            have c3 := c2.same t3
            have c4 := c3.same t4
            have c5 := c4.same t5
            have c6 := c5.same t6
            have c7 := c6.same t7
            have c8 := c7.same t8
            have nN := dr_new c8 hL
            refine ⟨d, g, c, _, c8.same t9, by omega, .inr ⟨L, _, rfl, upd_same, nN.2.1, by show 0 < 7; decide, by show 7 ≤ 1000; decide, fun x H3 hx D3 mv3 => ?_⟩⟩
            have S := ((((((((t1.trans t2).trans t3).trans t4).trans t5).trans t6).trans t7).trans t8).trans t9)
            have mvA := (mvD.trans (Mv.same S)).trans mv3
            obtain ⟨dx, ox, qx⟩ : ∃ dx, okD (n + 3) 6 dx = true ∧ Sd d g H3 x dx := by
              have up : ∀ {dx : PyData}, okD 4 3 dx = true → okD (n + 3) 6 dx = true := fun h => okD_mono (by omega) (by decide) h
              simp only [List.mem_cons, List.not_mem_nil, or_false] at hx
              rcases hx with rfl | rfl | rfl | rfl | rfl | rfl | rfl
              · exact ⟨.none, rfl, .non⟩
              · exact ⟨_, up (by decide +kernel), ((Sd.lst DD b1 .nil).same (((((((t2.trans t3).trans t4).trans t5).trans t6).trans t7).trans t8).trans t9)).mv mv3⟩
              · exact ⟨.int 0, rfl, .int _⟩
              · exact ⟨_, up (by decide +kernel), ((Sd.tup c2 b3 (.cons (Sd.tup c1 b2 .nil) .nil)).same (((((t4.trans t5).trans t6).trans t7).trans t8).trans t9)).mv mv3⟩
              · exact ⟨_, up (by decide +kernel), ((Sd.tup c3 b4 (.cons .non .nil)).same ((((t5.trans t6).trans t7).trans t8).trans t9)).mv mv3⟩
              · exact ⟨.str "a", up (by decide +kernel), .str _⟩
              · exact ⟨_, up (by decide +kernel), ((Sd.lst c7 b8 (.cons (Sd.tup c6 b7 (.cons (.str _) (.cons ((Sd.tup c4 b5 .nil).same t6) (.cons (Sd.tup c5 b6 .nil) .nil)))) .nil)).same t9).mv mv3⟩
            have F3 := F1.mv mvA (Nat.le_refl _)
            exact ⟨_, _, x, _, _, _, dx, _, _, _, _, rfl, ⟨F3.q1, F3.q2, qx, F3.q4, F3.o1, F3.o2, ox, F3.o4⟩, D3.mono (by omega), mvA⟩
          rw [List.concat_eq_append] at *
          obtain ⟨xi, xl, rfl, hxi, hxl⟩ := SdA.last hall3
          refine iteDT (by cases ri <;> rfl) ?_
          refine ⟨_, rfl, _, rfl, a3, _, _, _, rfl, rfl, .inl (.inl (tz _ _ ha3)), atI_last _ _, _, .ty "tuple", _, .type "tuple", _, rfl, .ty "tuple", (hxl.same tz).at.ty, kit_t, _, rfl, ?_⟩
          cases e4 : isT rl with
          | false =>
            refine iteF (iteF ?_)
            have DD := Dz
            have mvD := Mv.same (d := d) (g := g) tz
            refine ⟨_, rfl, (by show 0 ≤ sizeLine; decide), fun a1 b1 => ⟨(by show 0 ≤ sizeLine; decide), fun a2 b2 => ⟨(by show 1 ≤ sizeLine; decide), fun a3 b3 => ⟨(by show 1 ≤ sizeLine; decide), fun a4 b4 => ⟨(by show 0 ≤ sizeLine; decide), fun a5 b5 => ⟨(by show 0 ≤ sizeLine; decide), fun a6 b6 => ⟨(by show 3 ≤ sizeLine; decide), fun a7 b7 => ⟨(by show 1 ≤ sizeLine; decide), fun a8 b8 => ⟨(by show 7 ≤ sizeLine; decide), fun L hL => ?_⟩⟩⟩⟩⟩⟩⟩⟩⟩
            have t1 := same_new (o := .lst []) b1
            have t2 := same_new (o := .tup []) b2
            have t3 := same_new (o := .tup [.ref a2]) b3
            have t4 := same_new (o := .tup [.non]) b4
            have t5 := same_new (o := .tup []) b5
            have t6 := same_new (o := .tup []) b6
            have t7 := same_new (o := .tup [.str "m.a", .ref a5, .ref a6]) b7
            have t8 := same_new (o := .lst [.ref a7]) b8
            have t9 := same_new (o := .lst [.non, .ref a1, .int 0, .ref a3, .ref a4, .str "a", .ref a8]) hL
            have c1 := DD.same t1
            have c2 := c1.same t2
            have c3 := c2.same t3
            have c4 := c3.same t4
            have c5 := c4.same t5
            have c6 := c5.same t6
            have c7 := c6.same t7
            have c8 := c7.same t8
            have nN := dr_new c8 hL
            refine ⟨d, g, c, _, c8.same t9, by omega, .inr ⟨L, _, rfl, upd_same, nN.2.1, by show 0 < 7; decide, by show 7 ≤ 1000; decide, fun x H3 hx D3 mv3 => ?_⟩⟩
            have S := ((((((((t1.trans t2).trans t3).trans t4).trans t5).trans t6).trans t7).trans t8).trans t9)
            have mvA := (mvD.trans (Mv.same S)).trans mv3
            obtain ⟨dx, ox, qx⟩ : ∃ dx, okD (n + 3) 6 dx = true ∧ Sd d g H3 x dx := by
              have up : ∀ {dx : PyData}, okD 4 3 dx = true → okD (n + 3) 6 dx = true := fun h => okD_mono (by omega) (by decide) h
              simp only [List.mem_cons, List.not_mem_nil, or_false] at hx
              rcases hx with rfl | rfl | rfl | rfl | rfl | rfl | rfl
              · exact ⟨.none, rfl, .non⟩
              · exact ⟨_, up (by decide +kernel), ((Sd.lst DD b1 .nil).same (((((((t2.trans t3).trans t4).trans t5).trans t6).trans t7).trans t8).trans t9)).mv mv3⟩
              · exact ⟨.int 0, rfl, .int _⟩
              · exact ⟨_, up (by decide +kernel), ((Sd.tup c2 b3 (.cons (Sd.tup c1 b2 .nil) .nil)).same (((((t4.trans t5).trans t6).trans t7).trans t8).trans t9)).mv mv3⟩
              · exact ⟨_, up (by decide +kernel), ((Sd.tup c3 b4 (.cons .non .nil)).same ((((t5.trans t6).trans t7).trans t8).trans t9)).mv mv3⟩
              · exact ⟨.str "a", up (by decide +kernel), .str _⟩
              · exact ⟨_, up (by decide +kernel), ((Sd.lst c7 b8 (.cons (Sd.tup c6 b7 (.cons (.str _) (.cons ((Sd.tup c4 b5 .nil).same t6) (.cons (Sd.tup c5 b6 .nil) .nil)))) .nil)).same t9).mv mv3⟩
            have F3 := F1.mv mvA (Nat.le_refl _)
            exact ⟨_, _, x, _, _, _, dx, _, _, _, _, rfl, ⟨F3.q1, F3.q2, qx, F3.q4, F3.o1, F3.o2, ox, F3.o4⟩, D3.mono (by omega), mvA⟩
          | true =>
          refine iteT ?_
          obtain ⟨ls, rfl⟩ : ∃ ls, rl = .tuple ls := by cases rl <;> first | exact ⟨_, rfl⟩ | cases e4
          obtain ⟨al, yl, rfl, hal, hyl⟩ := (hxl.same tz).tupAt Dz
          refine ⟨_, rfl, _, rfl, a3, _, _, _, rfl, rfl, .inl (.inl (tz _ _ ha3)), atI_last _ _, _, yl.length, rfl, .inr ⟨_, .inl (.inl hal), rfl⟩, rfl, _, rfl, ?_⟩
          by_cases l3 : yl.length = 3
          case neg =>
            refine iteDF (decide_eq_false fun e => l3 (by injection e with e; omega)) ?_
            have DD := Dz
            have mvD := Mv.same (d := d) (g := g) tz
            refine ⟨_, rfl, (by show 0 ≤ sizeLine; decide), fun a1 b1 => ⟨(by show 0 ≤ sizeLine; decide), fun a2 b2 => ⟨(by show 1 ≤ sizeLine; decide), fun a3 b3 => ⟨(by show 1 ≤ sizeLine; decide), fun a4 b4 => ⟨(by show 0 ≤ sizeLine; decide), fun a5 b5 => ⟨(by show 0 ≤ sizeLine; decide), fun a6 b6 => ⟨(by show 3 ≤ sizeLine; decide), fun a7 b7 => ⟨(by show 1 ≤ sizeLine; decide), fun a8 b8 => ⟨(by show 7 ≤ sizeLine; decide), fun L hL => ?_⟩⟩⟩⟩⟩⟩⟩⟩⟩
            have t1 := same_new (o := .lst []) b1
            have t2 := same_new (o := .tup []) b2
            have t3 := same_new (o := .tup [.ref a2]) b3
            have t4 := same_new (o := .tup [.non]) b4
            have t5 := same_new (o := .tup []) b5
            have t6 := same_new (o := .tup []) b6
            have t7 := same_new (o := .tup [.str "m.a", .ref a5, .ref a6]) b7
            have t8 := same_new (o := .lst [.ref a7]) b8
            have t9 := same_new (o := .lst [.non, .ref a1, .int 0, .ref a3, .ref a4, .str "a", .ref a8]) hL
            have c1 := DD.same t1
            have c2 := c1.same t2
            have c3 := c2.same t3
            have c4 := c3.same t4
            have c5 := c4.same t5
            have c6 := c5.same t6
            have c7 := c6.same t7
            have c8 := c7.same t8
            have nN := dr_new c8 hL
            refine ⟨d, g, c, _, c8.same t9, by omega, .inr ⟨L, _, rfl, upd_same, nN.2.1, by show 0 < 7; decide, by show 7 ≤ 1000; decide, fun x H3 hx D3 mv3 => ?_⟩⟩
            have S := ((((((((t1.trans t2).trans t3).trans t4).trans t5).trans t6).trans t7).trans t8).trans t9)
            have mvA := (mvD.trans (Mv.same S)).trans mv3
            obtain ⟨dx, ox, qx⟩ : ∃ dx, okD (n + 3) 6 dx = true ∧ Sd d g H3 x dx := by
              have up : ∀ {dx : PyData}, okD 4 3 dx = true → okD (n + 3) 6 dx = true := fun h => okD_mono (by omega) (by decide) h
              simp only [List.mem_cons, List.not_mem_nil, or_false] at hx
              rcases hx with rfl | rfl | rfl | rfl | rfl | rfl | rfl
              · exact ⟨.none, rfl, .non⟩
              · exact ⟨_, up (by decide +kernel), ((Sd.lst DD b1 .nil).same (((((((t2.trans t3).trans t4).trans t5).trans t6).trans t7).trans t8).trans t9)).mv mv3⟩
              · exact ⟨.int 0, rfl, .int _⟩
              · exact ⟨_, up (by decide +kernel), ((Sd.tup c2 b3 (.cons (Sd.tup c1 b2 .nil) .nil)).same (((((t4.trans t5).trans t6).trans t7).trans t8).trans t9)).mv mv3⟩
              · exact ⟨_, up (by decide +kernel), ((Sd.tup c3 b4 (.cons .non .nil)).same ((((t5.trans t6).trans t7).trans t8).trans t9)).mv mv3⟩
              · exact ⟨.str "a", up (by decide +kernel), .str _⟩
              · exact ⟨_, up (by decide +kernel), ((Sd.lst c7 b8 (.cons (Sd.tup c6 b7 (.cons (.str _) (.cons ((Sd.tup c4 b5 .nil).same t6) (.cons (Sd.tup c5 b6 .nil) .nil)))) .nil)).same t9).mv mv3⟩
            have F3 := F1.mv mvA (Nat.le_refl _)
            exact ⟨_, _, x, _, _, _, dx, _, _, _, _, rfl, ⟨F3.q1, F3.q2, qx, F3.q4, F3.o1, F3.o2, ox, F3.o4⟩, D3.mono (by omega), mvA⟩
          case pos =>
          refine iteDT (by rw [l3]; rfl) ?_
          generalize hgx : ri ++ [PyData.tuple ls] = rows at *
          generalize hgv : xi ++ [V.ref al] = xrows at *
          have lx := hall3.len
          have rpos : 0 < rows.length := by rw [← hgx]; simp
          have na3 : a3 ≠ d ∧ a3 ≠ g := by
            obtain ⟨⟨l, k, _, _, hd⟩, ⟨gs, hg⟩, _, _⟩ := id D1
            exact ⟨fun z => (by rw [z, hd] at ha3; cases ha3), fun z => (by rw [z, hg] at ha3; cases ha3)⟩
          refine ⟨_, rfl, _, rfl, _, xrows.length, rfl, .inr ⟨_, .inl (.inl (tz _ _ ha3)), rfl⟩, d, g, c, _, _, rfl, Dz, by omega, by omega, by omega, fun i H2 i0 i1 D2 mv2 => ?_⟩
          obtain ⟨i, rfl⟩ := Int.eq_ofNat_of_zero_le i0
          have mvB := (Mv.same tz).trans mv2
          have ha4 := mvB _ _ na3.1 na3.2 ha3
          obtain ⟨vi, di, ei, hdi, qi⟩ := hall3.get2 (i := i) (by omega)
          have oi := hrs di (List.mem_of_getElem? hdi)
          refine ⟨_, rfl, _, rfl, a3, _, _, _, rfl, rfl, .inl (.inl ha4), atI_nat ei, _, rfl, vi, di, _, rfl, (qi.mv mvB).at, okD_mono (by omega) (by decide) oi, fun H3 s3 => ⟨_, rfl, ?_⟩⟩
          have D3 := D2.same s3
          have mvC := mvB.trans (Mv.same s3)
          cases er : dRow (i : Nat) di with
          | false =>
            refine iteF ?_
            exact ⟨_, _, _, _, _, _, _, _, _, _, _, rfl, F1.mv mvC (Nat.le_refl _), D3.mono (by omega), mvC⟩
          | true =>
          refine iteT ?_
          have qr := F1.q3.mv mvC
          refine ⟨_, rfl, _, rfl, _, rfl, slA_sd D3 qr fun p1 H4 s4 q1 => ?_⟩
          have ha5 := (mvC.trans (Mv.same s4)) _ _ na3.1 na3.2 ha3
          obtain ⟨y0, y1, cs, rfl⟩ : ∃ a b c, di = .tuple [a, b, .tuple c] := by
            match di, er with
            | .tuple [a, b, c], h =>
              simp only [dRow, Bool.and_eq_true] at h
              cases c with
              | tuple cs => exact ⟨a, b, cs, rfl⟩
              | _ => cases h.2.2
          obtain ⟨ai, yi, rfl, _, _⟩ := (qi.mv mvC).tupAt D3
          have dl : okD n 4 (.tuple [y0, y1, .tuple cs]) = true := by
            have oc := okD_mono (Nat.le_refl _) (Nat.le_refl _) oi
            exact row_small er oc
          refine ⟨_, rfl, _, rfl, _, rfl, a3, _, _, _, rfl, rfl, .inl (.inl ha5), atI_nat ei, _, rfl, d, g, c, ai, _, i, n, y0, y1, cs, rfl, D3.same s4, by omega, by omega, n10, by omega, (qi.mv mvC).same s4, dl, fun x dx H5 ox qx D5 mv5 => ?_⟩
          refine ⟨(by show 1 ≤ sizeLine; decide), fun e he => ?_⟩
          have te := same_new (o := .tup [x]) he
          have cl1 := cut_len rows none (some (i : Int))
          have cl2 := cut_len rows (some ((i : Int) + 1)) none
          refine catA_sd (D5.same te) ((q1.mv mv5).same te) (Sd.tup D5 he (.cons qx .nil)) (by simp only [List.length_cons, List.length_nil]; omega) fun p2 H6 s6 q2 => ?_
          have mvE := (((mvC.trans (Mv.same s4)).trans mv5).trans (Mv.same te)).trans (Mv.same s6)
          have D6 := (D5.same te).same s6
          refine ⟨_, rfl, _, rfl, _, _, rfl, rfl, _, rfl, ?_⟩
          first | unfold tNoPart | skip
          refine slA_sd D6 (F1.q3.mv mvE) fun p3 H7 s7 q3 => ?_
          refine catA_sd (D6.same s7) (q2.same s7) q3 (by simp only [List.length_append, List.length_cons, List.length_nil]; omega) fun p4 H8 s8 q4 => ?_
          have mvF := (mvE.trans (Mv.same s7)).trans (Mv.same s8)
          have F8 := F1.mv mvF (Nat.le_refl _)
          refine ⟨_, _, _, _, _, _, _, _, _, _, _, rfl, ⟨F8.q1, F8.q2, q4, F8.q4, F8.o1, F8.o2, okT ?_ fun y hy => ?_, F8.o4⟩, ((D6.same s7).same s8).mono (by omega), mvF⟩
          · have := cut_three rows i
            simp only [List.length_append, List.length_cons, List.length_nil]
            omega
          · rcases List.mem_append.mp hy with hy | hy
            · rcases List.mem_append.mp hy with hy | hy
              · exact okD_mono (by omega) (Nat.le_refl _) (hrs y (cut_mem hy))
              · rw [List.mem_singleton.mp hy]
                exact okD_mono (by omega) (by decide) ox
            · exact okD_mono (by omega) (Nat.le_refl _) (hrs y (cut_mem hy))
        | true =>
        refine iteT ?_
        obtain ⟨ls, rfl⟩ : ∃ ls, d4 = .tuple ls := by cases d4 <;> first | exact ⟨_, rfl⟩ | cases e4
        obtain ⟨a4, xs4, rfl, ha4, hall4⟩ := F1.q4.tupAt D1
        obtain ⟨lls, hls⟩ := ok_sub F.o4
        have lx := hall4.len
        refine ⟨_, rfl, _, rfl, _, xs4.length, rfl, .inr ⟨_, .inl (.inl ha4), rfl⟩, _, _, rfl, rfl, d, g, c, _, _, rfl, D1, by omega, by omega, by omega, fun i H2 i0 i1 D2 mv2 => ?_⟩
        obtain ⟨i, rfl⟩ := Int.eq_ofNat_of_zero_le i0
        refine ⟨_, rfl, _, .ty "tuple", _, .type "tuple", _, rfl, .ty "tuple", (F1.q3.mv mv2).at.ty, kit_t, _, rfl, ?_⟩
        cases e3 : isT d3 with
        | true =>
          obtain ⟨rs, rfl⟩ : ∃ rs, d3 = .tuple rs := by cases d3 <;> first | exact ⟨_, rfl⟩ | cases e3
          obtain ⟨a3, xs3, rfl, ha3, hall3⟩ := (F1.q3.mv mv2).tupAt D2
          obtain ⟨lrs, _⟩ := ok_sub F.o3
          refine iteT ⟨_, rfl, _, xs3.length, rfl, .inr ⟨_, .inl (.inl ha3), rfl⟩, _, _, rfl, ?_⟩
          have hmn : xs3.length ≤ 1000 := by rw [hall3.len]; omega
          generalize xs3.length = MN at hmn
          refine ⟨_, rfl, _, rfl, _, rfl, slA_sd D2 (F1.q4.mv mv2) fun p1 H3 s3 q1 => ?_⟩
          refine ⟨_, rfl, _, rfl, d, g, c, _, MN, rfl, D2.same s3, by omega, hmn, fun x dx H4 ox qx D4 mv4 => ?_⟩
          refine ⟨(by show 2 ≤ sizeLine; decide), fun e1 he1 => ⟨(by show 1 ≤ sizeLine; decide), fun e2 he2 => ?_⟩⟩
          have te1 := same_new (o := .tup [.str "a", x]) he1
          have te2 := same_new (o := .tup [.ref e1]) he2
          have D5 := (D4.same te1).same te2
          have cl1 := cut_len ls none (some (i : Int))
          have cl2 := cut_len ls (some (i : Int)) none
          refine catA_sd D5 (((q1.mv mv4).same te1).same te2) (Sd.tup (D4.same te1) he2 (.cons (Sd.tup D4 he1 (.cons (.str _) (.cons qx .nil))) .nil)) (by simp only [List.length_cons, List.length_nil]; omega) fun p2 H6 s6 q2 => ?_
          have mvE := ((((mv2.trans (Mv.same s3)).trans mv4).trans (Mv.same te1)).trans (Mv.same te2)).trans (Mv.same s6)
          have D6 := D5.same s6
          refine ⟨_, rfl, _, rfl, _, rfl, ?_⟩
          first | unfold tNoPart | skip
          refine slA_sd D6 (F1.q4.mv mvE) fun p3 H7 s7 q3 => ?_
          refine catA_sd (D6.same s7) (q2.same s7) q3 (by simp only [List.length_append, List.length_cons, List.length_nil]; omega) fun p4 H8 s8 q4 => ?_
          have mvF := (mvE.trans (Mv.same s7)).trans (Mv.same s8)
          have F8 := F1.mv mvF (Nat.le_refl _)
          refine ⟨_, _, _, _, _, _, _, _, _, _, _, rfl, ⟨F8.q1, F8.q2, F8.q3, q4, F8.o1, F8.o2, F8.o3, okT ?_ fun y hy => ?_⟩, ((D6.same s7).same s8).mono (by omega), mvF⟩
          · have := cut_two ls i
            simp only [List.length_append, List.length_cons, List.length_nil]
            omega
          · rcases List.mem_append.mp hy with hy | hy
            · rcases List.mem_append.mp hy with hy | hy
              · exact okD_mono (by omega) (Nat.le_refl _) (hls y (cut_mem hy))
              · rw [List.mem_singleton.mp hy]
                refine okT (by show 2 ≤ n + 3; omega) fun z hz => ?_
                simp only [List.mem_cons, List.not_mem_nil, or_false] at hz
                rcases hz with rfl | rfl
                · exact okD_mono (n := 0) (k := 0) (by omega) (by decide) (by decide +kernel)
                · exact okD_mono (by omega) (by decide) ox
            · exact okD_mono (by omega) (Nat.le_refl _) (hls y (cut_mem hy))
        | false =>
          refine iteF ⟨_, _, rfl, ?_⟩
          have hmn : (0 : Nat) ≤ 1000 := by decide
          refine ⟨_, rfl, _, rfl, _, rfl, slA_sd D2 (F1.q4.mv mv2) fun p1 H3 s3 q1 => ?_⟩
          refine ⟨_, rfl, _, rfl, d, g, c, _, 0, rfl, D2.same s3, by omega, hmn, fun x dx H4 ox qx D4 mv4 => ?_⟩
          refine ⟨(by show 2 ≤ sizeLine; decide), fun e1 he1 => ⟨(by show 1 ≤ sizeLine; decide), fun e2 he2 => ?_⟩⟩
          have te1 := same_new (o := .tup [.str "a", x]) he1
          have te2 := same_new (o := .tup [.ref e1]) he2
          have D5 := (D4.same te1).same te2
          have cl1 := cut_len ls none (some (i : Int))
          have cl2 := cut_len ls (some (i : Int)) none
          refine catA_sd D5 (((q1.mv mv4).same te1).same te2) (Sd.tup (D4.same te1) he2 (.cons (Sd.tup D4 he1 (.cons (.str _) (.cons qx .nil))) .nil)) (by simp only [List.length_cons, List.length_nil]; omega) fun p2 H6 s6 q2 => ?_
          have mvE := ((((mv2.trans (Mv.same s3)).trans mv4).trans (Mv.same te1)).trans (Mv.same te2)).trans (Mv.same s6)
          have D6 := D5.same s6
          refine ⟨_, rfl, _, rfl, _, rfl, ?_⟩
          first | unfold tNoPart | skip
          refine slA_sd D6 (F1.q4.mv mvE) fun p3 H7 s7 q3 => ?_
          refine catA_sd (D6.same s7) (q2.same s7) q3 (by simp only [List.length_append, List.length_cons, List.length_nil]; omega) fun p4 H8 s8 q4 => ?_
          have mvF := (mvE.trans (Mv.same s7)).trans (Mv.same s8)
          have F8 := F1.mv mvF (Nat.le_refl _)
          refine ⟨_, _, _, _, _, _, _, _, _, _, _, rfl, ⟨F8.q1, F8.q2, F8.q3, q4, F8.o1, F8.o2, F8.o3, okT ?_ fun y hy => ?_⟩, ((D6.same s7).same s8).mono (by omega), mvF⟩
          · have := cut_two ls i
            simp only [List.length_append, List.length_cons, List.length_nil]
            omega
          · rcases List.mem_append.mp hy with hy | hy
            · rcases List.mem_append.mp hy with hy | hy
              · exact okD_mono (by omega) (Nat.le_refl _) (hls y (cut_mem hy))
              · rw [List.mem_singleton.mp hy]
                refine okT (by show 2 ≤ n + 3; omega) fun z hz => ?_
                simp only [List.mem_cons, List.not_mem_nil, or_false] at hz
                rcases hz with rfl | rfl
                · exact okD_mono (n := 0) (k := 0) (by omega) (by decide) (by decide +kernel)
                · exact okD_mono (by omega) (by decide) ox
            · exact okD_mono (by omega) (Nat.le_refl _) (hls y (cut_mem hy))
      rw [decide_eq_false (show ¬ V.int r = V.int 3 from fun e => w3 (by injection e))]
      refine iteF (iteF ?_)
      refine ⟨_, rfl, _, .ty "tuple", _, .type "tuple", _, rfl, .ty "tuple", F1.q3.at.ty, kit_t, _, rfl, ?_⟩
      cases e3 : isT d3 with
      | false =>
        refine iteF (iteF ?_)
        have DD := D1
        have mvD := Mv.refl d g H1
        refine ⟨_, rfl, (by show 0 ≤ sizeLine; decide), fun a1 b1 => ⟨(by show 0 ≤ sizeLine; decide), fun a2 b2 => ⟨(by show 1 ≤ sizeLine; decide), fun a3 b3 => ⟨(by show 1 ≤ sizeLine; decide), fun a4 b4 => ⟨(by show 0 ≤ sizeLine; decide), fun a5 b5 => ⟨(by show 0 ≤ sizeLine; decide), fun a6 b6 => ⟨(by show 3 ≤ sizeLine; decide), fun a7 b7 => ⟨(by show 1 ≤ sizeLine; decide), fun a8 b8 => ⟨(by show 7 ≤ sizeLine; decide), fun L hL => ?_⟩⟩⟩⟩⟩⟩⟩⟩⟩
        have t1 := same_new (o := .lst []) b1
        have t2 := same_new (o := .tup []) b2
        have t3 := same_new (o := .tup [.ref a2]) b3
        have t4 := same_new (o := .tup [.non]) b4
        have t5 := same_new (o := .tup []) b5
        have t6 := same_new (o := .tup []) b6
        have t7 := same_new (o := .tup [.str "m.a", .ref a5, .ref a6]) b7
        have t8 := same_new (o := .lst [.ref a7]) b8
        have t9 := same_new (o := .lst [.non, .ref a1, .int 0, .ref a3, .ref a4, .str "a", .ref a8]) hL
        have c1 := DD.same t1
        have c2 := c1.same t2
        have c3 := c2.same t3
        have c4 := c3.same t4
        have c5 := c4.same t5
        have c6 := c5.same t6
        have c7 := c6.same t7
        have c8 := c7.same t8
        have nN := dr_new c8 hL
        refine ⟨d, g, c, _, c8.same t9, by omega, .inr ⟨L, _, rfl, upd_same, nN.2.1, by show 0 < 7; decide, by show 7 ≤ 1000; decide, fun x H3 hx D3 mv3 => ?_⟩⟩
        have S := ((((((((t1.trans t2).trans t3).trans t4).trans t5).trans t6).trans t7).trans t8).trans t9)
        have mvA := (mvD.trans (Mv.same S)).trans mv3
        obtain ⟨dx, ox, qx⟩ : ∃ dx, okD (n + 3) 6 dx = true ∧ Sd d g H3 x dx := by
          have up : ∀ {dx : PyData}, okD 4 3 dx = true → okD (n + 3) 6 dx = true := fun h => okD_mono (by omega) (by decide) h
          simp only [List.mem_cons, List.not_mem_nil, or_false] at hx
          rcases hx with rfl | rfl | rfl | rfl | rfl | rfl | rfl
          · exact ⟨.none, rfl, .non⟩
          · exact ⟨_, up (by decide +kernel), ((Sd.lst DD b1 .nil).same (((((((t2.trans t3).trans t4).trans t5).trans t6).trans t7).trans t8).trans t9)).mv mv3⟩
          · exact ⟨.int 0, rfl, .int _⟩
          · exact ⟨_, up (by decide +kernel), ((Sd.tup c2 b3 (.cons (Sd.tup c1 b2 .nil) .nil)).same (((((t4.trans t5).trans t6).trans t7).trans t8).trans t9)).mv mv3⟩
          · exact ⟨_, up (by decide +kernel), ((Sd.tup c3 b4 (.cons .non .nil)).same ((((t5.trans t6).trans t7).trans t8).trans t9)).mv mv3⟩
          · exact ⟨.str "a", up (by decide +kernel), .str _⟩
          · exact ⟨_, up (by decide +kernel), ((Sd.lst c7 b8 (.cons (Sd.tup c6 b7 (.cons (.str _) (.cons ((Sd.tup c4 b5 .nil).same t6) (.cons (Sd.tup c5 b6 .nil) .nil)))) .nil)).same t9).mv mv3⟩
        have F3 := F1.mv mvA (Nat.le_refl _)
        exact ⟨_, _, x, _, _, _, dx, _, _, _, _, rfl, ⟨F3.q1, F3.q2, qx, F3.q4, F3.o1, F3.o2, ox, F3.o4⟩, D3.mono (by omega), mvA⟩
      | true =>
      refine iteT ?_
      obtain ⟨rs, rfl⟩ : ∃ rs, d3 = .tuple rs := by cases d3 <;> first | exact ⟨_, rfl⟩ | cases e3
      obtain ⟨a3, xs3, rfl, ha3, hall3⟩ := F1.q3.tupAt D1
      obtain ⟨lrs, hrs⟩ := ok_sub F.o3
      refine ⟨_, rfl, (by show 0 ≤ sizeLine; decide), fun z0 hz0 => ?_⟩
      have tz := same_new (o := .tup []) hz0
      have Dz := D1.same tz
      refine ⟨_, _, (F1.q3.same tz).at.dp, (Sd.tup D1 hz0 SdA.nil).at.dp, okD_shaped F1.o3 (by decide), rfl, _, rfl, ?_⟩
      rcases List.eq_nil_or_concat rs with rfl | ⟨ri, rl, rfl⟩
      · refine iteDF rfl (iteF ?_)
        have DD := Dz
        have mvD := Mv.same (d := d) (g := g) tz
        refine ⟨_, rfl, (by show 0 ≤ sizeLine; decide), fun a1 b1 => ⟨(by show 0 ≤ sizeLine; decide), fun a2 b2 => ⟨(by show 1 ≤ sizeLine; decide), fun a3 b3 => ⟨(by show 1 ≤ sizeLine; decide), fun a4 b4 => ⟨(by show 0 ≤ sizeLine; decide), fun a5 b5 => ⟨(by show 0 ≤ sizeLine; decide), fun a6 b6 => ⟨(by show 3 ≤ sizeLine; decide), fun a7 b7 => ⟨(by show 1 ≤ sizeLine; decide), fun a8 b8 => ⟨(by show 7 ≤ sizeLine; decide), fun L hL => ?_⟩⟩⟩⟩⟩⟩⟩⟩⟩
        have t1 := same_new (o := .lst []) b1
        have t2 := same_new (o := .tup []) b2
        have t3 := same_new (o := .tup [.ref a2]) b3
        have t4 := same_new (o := .tup [.non]) b4
        have t5 := same_new (o := .tup []) b5
        have t6 := same_new (o := .tup []) b6
        have t7 := same_new (o := .tup [.str "m.a", .ref a5, .ref a6]) b7
        have t8 := same_new (o := .lst [.ref a7]) b8
        have t9 := same_new (o := .lst [.non, .ref a1, .int 0, .ref a3, .ref a4, .str "a", .ref a8]) hL
        have c1 := DD.same t1
        have c2 := c1.same t2
        have c3 := c2.same t3
        have c4 := c3.same t4
        have c5 := c4.same t5
        have c6 := c5.same t6
        have c7 := c6.same t7
        have c8 := c7.same t8
        have nN := dr_new c8 hL
        refine ⟨d, g, c, _, c8.same t9, by omega, .inr ⟨L, _, rfl, upd_same, nN.2.1, by show 0 < 7; decide, by show 7 ≤ 1000; decide, fun x H3 hx D3 mv3 => ?_⟩⟩
        have S := ((((((((t1.trans t2).trans t3).trans t4).trans t5).trans t6).trans t7).trans t8).trans t9)
        have mvA := (mvD.trans (Mv.same S)).trans mv3
        obtain ⟨dx, ox, qx⟩ : ∃ dx, okD (n + 3) 6 dx = true ∧ Sd d g H3 x dx := by
          have up : ∀ {dx : PyData}, okD 4 3 dx = true → okD (n + 3) 6 dx = true := fun h => okD_mono (by omega) (by decide) h
          simp only [List.mem_cons, List.not_mem_nil, or_false] at hx
          rcases hx with rfl | rfl | rfl | rfl | rfl | rfl | rfl
          · exact ⟨.none, rfl, .non⟩
          · exact ⟨_, up (by decide +kernel), ((Sd.lst DD b1 .nil).same (((((((t2.trans t3).trans t4).trans t5).trans t6).trans t7).trans t8).trans t9)).mv mv3⟩
          · exact ⟨.int 0, rfl, .int _⟩
          · exact ⟨_, up (by decide +kernel), ((Sd.tup c2 b3 (.cons (Sd.tup c1 b2 .nil) .nil)).same (((((t4.trans t5).trans t6).trans t7).trans t8).trans t9)).mv mv3⟩
          · exact ⟨_, up (by decide +kernel), ((Sd.tup c3 b4 (.cons .non .nil)).same ((((t5.trans t6).trans t7).trans t8).trans t9)).mv mv3⟩
          · exact ⟨.str "a", up (by decide +kernel), .str _⟩
          · exact ⟨_, up (by decide +kernel), ((Sd.lst c7 b8 (.cons (Sd.tup c6 b7 (.cons (.str _) (.cons ((Sd.tup c4 b5 .nil).same t6) (.cons (Sd.tup c5 b6 .nil) .nil)))) .nil)).same t9).mv mv3⟩
        have F3 := F1.mv mvA (Nat.le_refl _)
        exact ⟨_, _, x, _, _, _, dx, _, _, _, _, rfl, ⟨F3.q1, F3.q2, qx, F3.q4, F3.o1, F3.o2, ox, F3.o4⟩, D3.mono (by omega), mvA⟩
      rw [List.concat_eq_append] at *
      obtain ⟨xi, xl, rfl, hxi, hxl⟩ := SdA.last hall3
      refine iteDT (by cases ri <;> rfl) ?_
      refine ⟨_, rfl, _, rfl, a3, _, _, _, rfl, rfl, .inl (.inl (tz _ _ ha3)), atI_last _ _, _, .ty "tuple", _, .type "tuple", _, rfl, .ty "tuple", (hxl.same tz).at.ty, kit_t, _, rfl, ?_⟩
      cases e4 : isT rl with
      | false =>
        refine iteF (iteF ?_)
        have DD := Dz
        have mvD := Mv.same (d := d) (g := g) tz
        refine ⟨_, rfl, (by show 0 ≤ sizeLine; decide), fun a1 b1 => ⟨(by show 0 ≤ sizeLine; decide), fun a2 b2 => ⟨(by show 1 ≤ sizeLine; decide), fun a3 b3 => ⟨(by show 1 ≤ sizeLine; decide), fun a4 b4 => ⟨(by show 0 ≤ sizeLine; decide), fun a5 b5 => ⟨(by show 0 ≤ sizeLine; decide), fun a6 b6 => ⟨(by show 3 ≤ sizeLine; decide), fun a7 b7 => ⟨(by show 1 ≤ sizeLine; decide), fun a8 b8 => ⟨(by show 7 ≤ sizeLine; decide), fun L hL => ?_⟩⟩⟩⟩⟩⟩⟩⟩⟩
        have t1 := same_new (o := .lst []) b1
        have t2 := same_new (o := .tup []) b2
        have t3 := same_new (o := .tup [.ref a2]) b3
        have t4 := same_new (o := .tup [.non]) b4
        have t5 := same_new (o := .tup []) b5
        have t6 := same_new (o := .tup []) b6
        have t7 := same_new (o := .tup [.str "m.a", .ref a5, .ref a6]) b7
        have t8 := same_new (o := .lst [.ref a7]) b8
        have t9 := same_new (o := .lst [.non, .ref a1, .int 0, .ref a3, .ref a4, .str "a", .ref a8]) hL
        have c1 := DD.same t1
        have c2 := c1.same t2
        have c3 := c2.same t3
        have c4 := c3.same t4
        have c5 := c4.same t5
        have c6 := c5.same t6
        have c7 := c6.same t7
        have c8 := c7.same t8
        have nN := dr_new c8 hL
        refine ⟨d, g, c, _, c8.same t9, by omega, .inr ⟨L, _, rfl, upd_same, nN.2.1, by show 0 < 7; decide, by show 7 ≤ 1000; decide, fun x H3 hx D3 mv3 => ?_⟩⟩
        have S := ((((((((t1.trans t2).trans t3).trans t4).trans t5).trans t6).trans t7).trans t8).trans t9)
        have mvA := (mvD.trans (Mv.same S)).trans mv3
        obtain ⟨dx, ox, qx⟩ : ∃ dx, okD (n + 3) 6 dx = true ∧ Sd d g H3 x dx := by
          have up : ∀ {dx : PyData}, okD 4 3 dx = true → okD (n + 3) 6 dx = true := fun h => okD_mono (by omega) (by decide) h
          simp only [List.mem_cons, List.not_mem_nil, or_false] at hx
          rcases hx with rfl | rfl | rfl | rfl | rfl | rfl | rfl
          · exact ⟨.none, rfl, .non⟩
          · exact ⟨_, up (by decide +kernel), ((Sd.lst DD b1 .nil).same (((((((t2.trans t3).trans t4).trans t5).trans t6).trans t7).trans t8).trans t9)).mv mv3⟩
          · exact ⟨.int 0, rfl, .int _⟩
          · exact ⟨_, up (by decide +kernel), ((Sd.tup c2 b3 (.cons (Sd.tup c1 b2 .nil) .nil)).same (((((t4.trans t5).trans t6).trans t7).trans t8).trans t9)).mv mv3⟩
          · exact ⟨_, up (by decide +kernel), ((Sd.tup c3 b4 (.cons .non .nil)).same ((((t5.trans t6).trans t7).trans t8).trans t9)).mv mv3⟩
          · exact ⟨.str "a", up (by decide +kernel), .str _⟩
          · exact ⟨_, up (by decide +kernel), ((Sd.lst c7 b8 (.cons (Sd.tup c6 b7 (.cons (.str _) (.cons ((Sd.tup c4 b5 .nil).same t6) (.cons (Sd.tup c5 b6 .nil) .nil)))) .nil)).same t9).mv mv3⟩
        have F3 := F1.mv mvA (Nat.le_refl _)
        exact ⟨_, _, x, _, _, _, dx, _, _, _, _, rfl, ⟨F3.q1, F3.q2, qx, F3.q4, F3.o1, F3.o2, ox, F3.o4⟩, D3.mono (by omega), mvA⟩
      | true =>
      refine iteT ?_
      obtain ⟨ls, rfl⟩ : ∃ ls, rl = .tuple ls := by cases rl <;> first | exact ⟨_, rfl⟩ | cases e4
      obtain ⟨al, yl, rfl, hal, hyl⟩ := (hxl.same tz).tupAt Dz
      refine ⟨_, rfl, _, rfl, a3, _, _, _, rfl, rfl, .inl (.inl (tz _ _ ha3)), atI_last _ _, _, yl.length, rfl, .inr ⟨_, .inl (.inl hal), rfl⟩, rfl, _, rfl, ?_⟩
      by_cases l3 : yl.length = 3
      case neg =>
        refine iteDF (decide_eq_false fun e => l3 (by injection e with e; omega)) ?_
        have DD := Dz
        have mvD := Mv.same (d := d) (g := g) tz
        refine ⟨_, rfl, (by show 0 ≤ sizeLine; decide), fun a1 b1 => ⟨(by show 0 ≤ sizeLine; decide), fun a2 b2 => ⟨(by show 1 ≤ sizeLine; decide), fun a3 b3 => ⟨(by show 1 ≤ sizeLine; decide), fun a4 b4 => ⟨(by show 0 ≤ sizeLine; decide), fun a5 b5 => ⟨(by show 0 ≤ sizeLine; decide), fun a6 b6 => ⟨(by show 3 ≤ sizeLine; decide), fun a7 b7 => ⟨(by show 1 ≤ sizeLine; decide), fun a8 b8 => ⟨(by show 7 ≤ sizeLine; decide), fun L hL => ?_⟩⟩⟩⟩⟩⟩⟩⟩⟩
        have t1 := same_new (o := .lst []) b1
        have t2 := same_new (o := .tup []) b2
        have t3 := same_new (o := .tup [.ref a2]) b3
        have t4 := same_new (o := .tup [.non]) b4
        have t5 := same_new (o := .tup []) b5
        have t6 := same_new (o := .tup []) b6
        have t7 := same_new (o := .tup [.str "m.a", .ref a5, .ref a6]) b7
        have t8 := same_new (o := .lst [.ref a7]) b8
        have t9 := same_new (o := .lst [.non, .ref a1, .int 0, .ref a3, .ref a4, .str "a", .ref a8]) hL
        have c1 := DD.same t1
        have c2 := c1.same t2
        have c3 := c2.same t3
        have c4 := c3.same t4
        have c5 := c4.same t5
        have c6 := c5.same t6
        have c7 := c6.same t7
        have c8 := c7.same t8
        have nN := dr_new c8 hL
        refine ⟨d, g, c, _, c8.same t9, by omega, .inr ⟨L, _, rfl, upd_same, nN.2.1, by show 0 < 7; decide, by show 7 ≤ 1000; decide, fun x H3 hx D3 mv3 => ?_⟩⟩
        have S := ((((((((t1.trans t2).trans t3).trans t4).trans t5).trans t6).trans t7).trans t8).trans t9)
        have mvA := (mvD.trans (Mv.same S)).trans mv3
        obtain ⟨dx, ox, qx⟩ : ∃ dx, okD (n + 3) 6 dx = true ∧ Sd d g H3 x dx := by
          have up : ∀ {dx : PyData}, okD 4 3 dx = true → okD (n + 3) 6 dx = true := fun h => okD_mono (by omega) (by decide) h
          simp only [List.mem_cons, List.not_mem_nil, or_false] at hx
          rcases hx with rfl | rfl | rfl | rfl | rfl | rfl | rfl
          · exact ⟨.none, rfl, .non⟩
          · exact ⟨_, up (by decide +kernel), ((Sd.lst DD b1 .nil).same (((((((t2.trans t3).trans t4).trans t5).trans t6).trans t7).trans t8).trans t9)).mv mv3⟩
          · exact ⟨.int 0, rfl, .int _⟩
          · exact ⟨_, up (by decide +kernel), ((Sd.tup c2 b3 (.cons (Sd.tup c1 b2 .nil) .nil)).same (((((t4.trans t5).trans t6).trans t7).trans t8).trans t9)).mv mv3⟩
          · exact ⟨_, up (by decide +kernel), ((Sd.tup c3 b4 (.cons .non .nil)).same ((((t5.trans t6).trans t7).trans t8).trans t9)).mv mv3⟩
          · exact ⟨.str "a", up (by decide +kernel), .str _⟩
          · exact ⟨_, up (by decide +kernel), ((Sd.lst c7 b8 (.cons (Sd.tup c6 b7 (.cons (.str _) (.cons ((Sd.tup c4 b5 .nil).same t6) (.cons (Sd.tup c5 b6 .nil) .nil)))) .nil)).same t9).mv mv3⟩
        have F3 := F1.mv mvA (Nat.le_refl _)
        exact ⟨_, _, x, _, _, _, dx, _, _, _, _, rfl, ⟨F3.q1, F3.q2, qx, F3.q4, F3.o1, F3.o2, ox, F3.o4⟩, D3.mono (by omega), mvA⟩
      case pos =>
      refine iteDT (by rw [l3]; rfl) ?_
      generalize hgx : ri ++ [PyData.tuple ls] = rows at *
      generalize hgv : xi ++ [V.ref al] = xrows at *
      have lx := hall3.len
      have rpos : 0 < rows.length := by rw [← hgx]; simp
      have na3 : a3 ≠ d ∧ a3 ≠ g := by
        obtain ⟨⟨l, k, _, _, hd⟩, ⟨gs, hg⟩, _, _⟩ := id D1
        exact ⟨fun z => (by rw [z, hd] at ha3; cases ha3), fun z => (by rw [z, hg] at ha3; cases ha3)⟩
      refine ⟨_, rfl, _, rfl, _, xrows.length, rfl, .inr ⟨_, .inl (.inl (tz _ _ ha3)), rfl⟩, d, g, c, _, _, rfl, Dz, by omega, by omega, by omega, fun i H2 i0 i1 D2 mv2 => ?_⟩
      obtain ⟨i, rfl⟩ := Int.eq_ofNat_of_zero_le i0
      have mvB := (Mv.same tz).trans mv2
      have ha4 := mvB _ _ na3.1 na3.2 ha3
      obtain ⟨vi, di, ei, hdi, qi⟩ := hall3.get2 (i := i) (by omega)
      have oi := hrs di (List.mem_of_getElem? hdi)
      refine ⟨_, rfl, _, rfl, a3, _, _, _, rfl, rfl, .inl (.inl ha4), atI_nat ei, _, rfl, vi, di, _, rfl, (qi.mv mvB).at, okD_mono (by omega) (by decide) oi, fun H3 s3 => ⟨_, rfl, ?_⟩⟩
      have D3 := D2.same s3
      have mvC := mvB.trans (Mv.same s3)
      cases er : dRow (i : Nat) di with
      | false =>
        refine iteF ?_
        exact ⟨_, _, _, _, _, _, _, _, _, _, _, rfl, F1.mv mvC (Nat.le_refl _), D3.mono (by omega), mvC⟩
      | true =>
      refine iteT ?_
      have qr := F1.q3.mv mvC
      refine ⟨_, rfl, _, rfl, _, rfl, slA_sd D3 qr fun p1 H4 s4 q1 => ?_⟩
      have ha5 := (mvC.trans (Mv.same s4)) _ _ na3.1 na3.2 ha3
      obtain ⟨y0, y1, cs, rfl⟩ : ∃ a b c, di = .tuple [a, b, .tuple c] := by
        match di, er with
        | .tuple [a, b, c], h =>
          simp only [dRow, Bool.and_eq_true] at h
          cases c with
          | tuple cs => exact ⟨a, b, cs, rfl⟩
          | _ => cases h.2.2
      obtain ⟨ai, yi, rfl, _, _⟩ := (qi.mv mvC).tupAt D3
      have dl : okD n 4 (.tuple [y0, y1, .tuple cs]) = true := by
        have oc := okD_mono (Nat.le_refl _) (Nat.le_refl _) oi
        exact row_small er oc
      refine ⟨_, rfl, _, rfl, _, rfl, a3, _, _, _, rfl, rfl, .inl (.inl ha5), atI_nat ei, _, rfl, d, g, c, ai, _, i, n, y0, y1, cs, rfl, D3.same s4, by omega, by omega, n10, by omega, (qi.mv mvC).same s4, dl, fun x dx H5 ox qx D5 mv5 => ?_⟩
      refine ⟨(by show 1 ≤ sizeLine; decide), fun e he => ?_⟩
      have te := same_new (o := .tup [x]) he
      have cl1 := cut_len rows none (some (i : Int))
      have cl2 := cut_len rows (some ((i : Int) + 1)) none
      refine catA_sd (D5.same te) ((q1.mv mv5).same te) (Sd.tup D5 he (.cons qx .nil)) (by simp only [List.length_cons, List.length_nil]; omega) fun p2 H6 s6 q2 => ?_
      have mvE := (((mvC.trans (Mv.same s4)).trans mv5).trans (Mv.same te)).trans (Mv.same s6)
      have D6 := (D5.same te).same s6
      refine ⟨_, rfl, _, rfl, _, _, rfl, rfl, _, rfl, ?_⟩
      first | unfold tNoPart | skip
      refine slA_sd D6 (F1.q3.mv mvE) fun p3 H7 s7 q3 => ?_
      refine catA_sd (D6.same s7) (q2.same s7) q3 (by simp only [List.length_append, List.length_cons, List.length_nil]; omega) fun p4 H8 s8 q4 => ?_
      have mvF := (mvE.trans (Mv.same s7)).trans (Mv.same s8)
      have F8 := F1.mv mvF (Nat.le_refl _)
      refine ⟨_, _, _, _, _, _, _, _, _, _, _, rfl, ⟨F8.q1, F8.q2, q4, F8.q4, F8.o1, F8.o2, okT ?_ fun y hy => ?_, F8.o4⟩, ((D6.same s7).same s8).mono (by omega), mvF⟩
      · have := cut_three rows i
        simp only [List.length_append, List.length_cons, List.length_nil]
        omega
      · rcases List.mem_append.mp hy with hy | hy
        · rcases List.mem_append.mp hy with hy | hy
          · exact okD_mono (by omega) (Nat.le_refl _) (hrs y (cut_mem hy))
          · rw [List.mem_singleton.mp hy]
            exact okD_mono (by omega) (by decide) ox
        · exact okD_mono (by omega) (Nat.le_refl _) (hrs y (cut_mem hy))
    · rintro σ H2 ⟨u1, u2, u3, u4, e1, e2, e3, e4, x7, x8, x9, rfl, F2, D2, mv2⟩
      refine ⟨_, rfl, _, rfl, _, rfl, _, rfl, (by show 4 ≤ sizeLine; decide), fun p' hp' => ?_⟩
      exact k p' u1 u2 u3 u4 e1 e2 e3 e4 _ upd_same (F2.mv (Mv.same (same_new hp')) (Nat.le_refl _)) ((D2.same (same_new hp')).mono (by omega)) ((mv1.trans mv2).trans (Mv.same (same_new hp')))
end
end Sn

/-! ## A route: counted, __init__ -/
namespace Sn
open PySem PySem.Spec PyProof.Rows L2 TL
def cnt (cs : List Int) : PyData → Int
  | .str _ => 1
  | .int i => cs.getD i.toNat 0
  | _ => 0
def cnts (cs : List Int) : PyData → Int
  | .tuple ds => (ds.map (cnt cs)).sum
  | _ => 0
theorem map_range {α β : Type} (f : α → β) (z : α) : ∀ ds : List α, (List.range ds.length).map (fun i => f (ds.getD i z)) = ds.map f := by
  intro ds
  apply List.ext_getElem?
  intro i
  rw [List.getElem?_map, List.getElem?_map]
  by_cases h : i < ds.length
  · rw [List.getElem?_range h, List.getElem?_eq_getElem h, Option.map_some, Option.map_some, List.getD_eq_getElem?_getD, List.getElem?_eq_getElem h]; rfl
  · rw [List.getElem?_eq_none (by rw [List.length_range]; omega), List.getElem?_eq_none (by omega)]; rfl
section
variable {P : Program} {w : World} {K : PySem.W.Frag} {mg : Str → Option Value} {base : Heap}
def spCnt (C : Addr) : Sp := fun vs H Q _ => ∃ (a dx q : Addr) (fs : List (Str × V)) (cs : List Int) (v : V) (ds : List PyData), vs = [.ref a, v] ∧ H a = some (.ins C dx fs) ∧ fs.lookup ("counts" : Str) = some (.ref q) ∧ H q = some (.lst (cs.map V.int)) ∧
  Dh H v (.tuple ds) ∧ ds.length ≤ 1000 ∧ (∀ x ∈ ds, dCh cs.length x = true) ∧ ∀ H', Same H H' → Q (.int (ds.map (cnt cs)).sum) H'
theorem ok_counted (T : Txt K mg) : FnOk P w K mg base CX0 1 T.f_Route_counted T.fd_Route_counted ["self", "choices"] (spCnt T.C_Route) := by
  refine T.F_Route_counted.ok sc_Route_counted (fun vs H Q E h => ?_) (fun cdv A outer s H vs Q E hr h => ?_)
  · obtain ⟨a, dx, q, fs, cs, v, ds, rfl, _⟩ := h
    rfl
  · obtain ⟨a, dx, q, fs, cs, v, ds, rfl, ha, hf, hq, hd, hl, hm, k⟩ := h
    refine ⟨_, (pss_one (ps_ret (pe_callB (cr_sum rfl) (by rfl) T.z_sum (by decide +kernel) (pa_cons (pe_lc (own := [("choice", 2)]) (g := gName 2) (by rfl) sc_Route_counted.nd (pi_tup (pv 1)) (blkOk_by (own := [("choice", 2)]) (N := n_Route_counted) (sc := defScope s_Route_counted) (by decide +kernel)) (fun _ _ _ _ _ => (pg_name (i := 2) sc_Route_counted.nd rfl (Or.inl rfl))) (fun _ _ _ _ _ => pts_nil) (fun _ _ _ _ _ => (pe_ifExp (pt_val (pe_callB (call_isiN (K := K)) (by rfl) T.z_isinstance (by decide +kernel) (pa_cons (pv 2) (pa_cons (pe_bltn (v := .ty "str") (by rfl) T.z_str (by decide +kernel) rfl) pa_nil)))) pe_int (pe_ix (ix_listK (K := K)) (pe_fldK (K := K) (pv 0)) (pv 2) (fun _ _ => rfl))))) pa_nil)))), ?_⟩
    cases hd with
    | tup hb hall =>
    rename_i b xs
    refine ⟨_, rfl, b, rfl, ⟨_, .inl (.inl hb)⟩, fun D hD => ?_⟩
    refine lc_out (walk_tup (K := K) (a := b) (xs := xs)) (fun i => .int (cnt cs (ds.getD i .none))) (by rw [hall.len]; exact hl) hD (fun H1 s1 => .inl (.inl (s1 _ _ hb))) ?_ ?_
    · rintro i x H1 H2 Qg hi s1 ⟨rfl, hx⟩ kk
      obtain ⟨e, he, hde⟩ := hall.get hx
      have hc := hm e (List.mem_of_getElem? he)
      refine kk _ _ (Same.refl _) rfl fun R hR => ?_
      have hR := hR H2 (Same.refl _)
      rw [getD_of he] at hR
      have hde' := hde.same s1
      refine ⟨_, rfl, x, .ty "str", _, .type "str", _, rfl, .ty "str", hde'.ty, kit_s, _, rfl, ?_⟩
      cases hde with
      | str z => exact iteT hR
      | int i =>
        refine iteF ?_
        simp only [dCh, Bool.and_eq_true, decide_eq_true_eq] at hc
        obtain ⟨n, rfl⟩ := Int.eq_ofNat_of_zero_le hc.1
        have hn : n < cs.length := by omega
        have e1 : (cs.map V.int)[n]? = some (.int (cs.getD n 0)) := by
          rw [List.getElem?_map, List.getD_eq_getElem?_getD, List.getElem?_eq_getElem hn]; rfl
        exact ⟨_, rfl, a, _, dx, fs, _, rfl, s1 _ _ ha, T.cl_Route, T.at_Route_counts, hf, _, rfl, q, _, _, _, rfl, rfl, .inl (.inl (s1 _ _ hq)), atI_nat e1, hR⟩
      | non => cases hc
      | bl b => cases hc
      | lst h a => cases hc
      | tup h a => cases hc
    · intro H1 s1 hl1
      rw [show (List.range xs.length).map (fun i => V.int (cnt cs (ds.getD i .none))) = ((List.range xs.length).map fun i => cnt cs (ds.getD i .none)).map V.int by rw [List.map_map]; rfl] at hl1
      refine ⟨D, _, rfl, .inl (.inl hl1), ?_⟩
      have q := k H1 s1
      show Q (.int _) H1
      rw [hall.len, map_range]
      exact q
/-- the heap but for what stands at x -/
def SameX (x : Addr) (H H' : Hp) : Prop := ∀ b o, b ≠ x → H b = some o → H' b = some o
theorem SameX.trans {x : Addr} {H H1 H2 : Hp} (a : SameX x H H1) (b : SameX x H1 H2) : SameX x H H2 := fun c o n e => b _ _ n (a _ _ n e)
theorem SameX.of {x : Addr} {H H1 : Hp} (a : Same H H1) : SameX x H H1 := fun c o _ e => a _ _ e
theorem SameX.put {x : Addr} {H : Hp} {o : HO} : SameX x H (upd H x o) := fun c o n e => by rw [upd_ne n]; exact e
mutual
theorem Dh.sameX {H H' : Hp} {x : Addr} {C dx : Addr} {fs : List (Str × V)} (hx : H x = some (.ins C dx fs)) (sm : SameX x H H') : ∀ {v : V} {d : PyData}, Dh H v d → Dh H' v d
  | _, _, .non => .non
  | _, _, .bl b => .bl b
  | _, _, .int i => .int i
  | _, _, .str x => .str x
  | _, _, .lst h a => .lst (sm _ _ (fun e => by rw [e, hx] at h; cases h) h) (a.sameX hx sm)
  | _, _, .tup h a => .tup (sm _ _ (fun e => by rw [e, hx] at h; cases h) h) (a.sameX hx sm)
theorem DhAll.sameX {H H' : Hp} {x : Addr} {C dx : Addr} {fs : List (Str × V)} (hx : H x = some (.ins C dx fs)) (sm : SameX x H H') : ∀ {v : List V} {d : List PyData}, DhAll H v d → DhAll H' v d
  | _, _, .nil => .nil
  | _, _, .cons h a => .cons (h.sameX hx sm) (a.sameX hx sm)
end
/-- the counts of the rows, one after the other -/
def rowCs : List PyData → List Int
  | ds => ds.foldl (fun cs d => cs ++ [match d with | .tuple [_, _, c] => cnts cs c | _ => 0]) []
/-- what a made route has -/
structure Rt (C : Addr) (H : Hp) (x : Addr) (v1 v2 v3 v4 : V) (cs : List Int) (n : Int) : Prop where
  at_ : ∃ dx q, H x = some (.ins C dx [("start", v1), ("arguments", v2), ("rows", v3), ("legs", v4), ("counts", .ref q), ("count", .int n)]) ∧ H q = some (.lst (cs.map V.int))
theorem fs1 (v1 : V) : putF "start" v1 [] = ([("start", v1)] : List (Str × V)) := rfl
theorem fs2 (v1 v2 : V) : putF "arguments" v2 ([("start", v1)] : List (Str × V)) = ([("start", v1), ("arguments", v2)] : List (Str × V)) := rfl
theorem fs3 (v1 v2 v3 : V) : putF "rows" v3 ([("start", v1), ("arguments", v2)] : List (Str × V)) = ([("start", v1), ("arguments", v2), ("rows", v3)] : List (Str × V)) := rfl
theorem fs4 (v1 v2 v3 v4 : V) : putF "legs" v4 ([("start", v1), ("arguments", v2), ("rows", v3)] : List (Str × V)) = ([("start", v1), ("arguments", v2), ("rows", v3), ("legs", v4)] : List (Str × V)) := rfl
theorem fs5 (v1 v2 v3 v4 v5 : V) : putF "counts" v5 ([("start", v1), ("arguments", v2), ("rows", v3), ("legs", v4)] : List (Str × V)) = ([("start", v1), ("arguments", v2), ("rows", v3), ("legs", v4), ("counts", v5)] : List (Str × V)) := rfl
theorem fs6 (v1 v2 v3 v4 v5 v6 : V) : putF "count" v6 ([("start", v1), ("arguments", v2), ("rows", v3), ("legs", v4), ("counts", v5)] : List (Str × V)) = ([("start", v1), ("arguments", v2), ("rows", v3), ("legs", v4), ("counts", v5), ("count", v6)] : List (Str × V)) := rfl
theorem parts_of {d1 d2 d3 d4 : PyData} (h : dParts d1 d2 d3 d4 = true) : ∃ r l, d3 = .tuple r ∧ d4 = .tuple l ∧ (∀ (i : Nat) d, r[i]? = some d → dRow i d = true) ∧ ∀ d ∈ l, dChs r.length d = true := by
  unfold dParts at h
  simp only [Bool.and_eq_true] at h
  obtain ⟨⟨_, h3⟩, h4⟩ := h
  cases d3 with
  | tuple r =>
    cases d4 with
    | tuple l =>
      refine ⟨r, l, rfl, rfl, fun i d e => ?_, ?_⟩
      · simp only [dRows, List.all_eq_true] at h3
        have := h3 i (List.mem_range.mpr (List.getElem?_eq_some_iff.mp e).1)
        rwa [getD_of e] at this
      · simp only [dLegs, dLen, List.all_eq_true] at h4
        exact h4
    | _ => cases h4
  | _ => cases h3
theorem row_of {k : Int} {d : PyData} (h : dRow k d = true) : ∃ a b c, d = .tuple [a, b, .tuple c] ∧ ∀ x ∈ c, dCh k x = true := by
  match d, h with
  | .tuple [a, b, c], h =>
    simp only [dRow, Bool.and_eq_true] at h
    cases c with
    | tuple cs => exact ⟨a, b, cs, rfl, by simpa [dChs] using h.2.2⟩
    | _ => cases h.2.2
theorem chs_of {k : Int} {d : PyData} (h : dChs k d = true) : ∃ c, d = .tuple c ∧ ∀ x ∈ c, dCh k x = true := by
  cases d with
  | tuple cs => exact ⟨cs, rfl, by simpa [dChs] using h⟩
  | _ => cases h
theorem rowCs_app (l : List PyData) (d : PyData) : rowCs (l ++ [d]) = rowCs l ++ [match d with | .tuple [_, _, c] => cnts (rowCs l) c | _ => 0] := by
  unfold rowCs
  rw [List.foldl_append]; rfl
theorem rowCs_len (l : List PyData) : (rowCs l).length = l.length := by
  unfold rowCs
  have key : ∀ (l : List PyData) (cs : List Int), (l.foldl (fun cs d => cs ++ [match d with | .tuple [_, _, c] => cnts cs c | _ => 0]) cs).length = cs.length + l.length := by
    intro l
    induction l with
    | nil => intro cs; rfl
    | cons d r ih =>
      intro cs
      rw [List.foldl_cons, ih, List.length_append, List.length_cons, List.length_nil, List.length_cons]
      omega
  rw [key]; simp
theorem takes2 {α : Type} {l : List α} {i : Nat} {x : α} (h : l[i]? = some x) : l.take (i + 1) = l.take i ++ [x] := by
  rw [List.take_add_one, h]; rfl
def spInit (C CB : Addr) : Sp := fun vs H Q E => ∃ (x dx : Addr) (v1 v2 v3 v4 : V) (d1 d2 d3 d4 : PyData), vs = [.ref x, v1, v2, v3, v4] ∧ H x = some (.ins C dx []) ∧ Dh H v1 d1 ∧ Dh H v2 d2 ∧ Dh H v3 d3 ∧ Dh H v4 d4 ∧
  okD 1000 20 d1 = true ∧ okD 1000 20 d2 = true ∧ okD 1000 20 d3 = true ∧ okD 1000 20 d4 = true ∧
  (dParts d1 d2 d3 d4 = true → ∀ r l H', d3 = .tuple r → d4 = .tuple l → SameX x H H' → Rt C H' x v1 v2 v3 v4 (rowCs r) ((l.map (cnts (rowCs r))).sum) → Q .non H') ∧
  (dParts d1 d2 d3 d4 = false → ∀ H', Same H H' → E (.ref CB) none H')
theorem ok_initR (T : Txt K mg) : FnOk P w K mg base (L2.CX P w) 6 T.f_Route_init T.fd_Route_init ["self", "start", "arguments", "rows", "legs"] (spInit T.C_Route T.C_BadRoute) := by
  have GP : FnOk P w K mg base CX0 5 T.f_are_parts T.fd_are_parts ["start", "arguments", "rows", "legs"] spParts := ok_parts T
  have GN : FnOk P w K mg base CX0 1 T.f_Route_counted T.fd_Route_counted ["self", "choices"] (spCnt T.C_Route) := ok_counted T
  refine T.F_Route_init.okX sc_Route_init (fun vs H Q E h => ?_) (fun cdv A outer s H vs Q E hr h => ?_)
  · obtain ⟨x, dx, v1, v2, v3, v4, d1, d2, d3, d4, rfl, _⟩ := h
    rfl
  · obtain ⟨x, dx, v1, v2, v3, v4, d1, d2, d3, d4, rfl, hx, h1, h2, h3, h4, o1, o2, o3, o4, k, kE⟩ := h
    refine ⟨_, (pss_cons (ps_if (pt_not (pt_val (pe_call (ok_parts T) (hr.mono (by decide)) rfl T.g_are_parts T.F_are_parts.kp T.b_are_parts .nil pass0 (pa_cons (pv 1) (pa_cons (pv 2) (pa_cons (pv 3) (pa_cons (pv 4) pa_nil)))))))
        (pss_one (ps_raise rfl (takes_of rfl rfl rfl rfl) (pmk_own PySem.F.excBase_ValueError T.xi_BadRoute T.gC_BadRoute T.kC_BadRoute (raises_own T.xf_BadRoute.exC T.ty_BadRoute) rfl)))
        pss_nil)
      (pss_cons (ps_fld (pv 0) (pv 1) rfl)
      (pss_cons (ps_fld (pv 0) (pv 2) rfl)
      (pss_cons (ps_fld (pv 0) (pv 3) rfl)
      (pss_cons (ps_fld (pv 0) (pv 4) rfl)
      (pss_cons (ps_fld (pv 0) (pe_lst pa_nil) rfl)
      (pss_cons (ps_for (passes_of rfl) rfl (pi_tup (pv 3)) (pg_name (i := 5) sc_Route_init.nd rfl (Or.inl rfl))
        (pss_one (ps_expr (pe_bm PySem.F.plainAttrs_list PySem.F.slot_list_append PySem.F.type_list_append mt_append (pe_fldK (K := K) (pv 0)) (pa_cons (pe_meth (pv 0) T.cl_Route T.m_Route_counted (ok_counted T) (hr.mono (by decide)) T.b_Route_counted .nil pass0 (pa_cons (pe_ix (ix_tupK (K := K)) (pv 5) pe_int (fun _ _ => rfl)) pa_nil)) pa_nil)))))
      (pss_one (ps_fld (pv 0) (pe_callB (cr_sum rfl) (by rfl) T.z_sum (by decide +kernel) (pa_cons (pe_lc (own := [("leg", 6)]) (g := gName 6) (by rfl) sc_Route_init.nd (pi_tup (pv 4)) (blkOk_by (own := [("leg", 6)]) (N := n_Route_init) (sc := defScope s_Route_init) (by decide +kernel)) (fun _ _ _ _ _ => (pg_name (i := 6) sc_Route_init.nd rfl (Or.inl rfl))) (fun _ _ _ _ _ => pts_nil) (fun _ _ _ _ _ => (pe_meth (pv 0) T.cl_Route T.m_Route_counted (ok_counted T) (hr.mono (by decide)) T.b_Route_counted .nil pass0 (pa_cons (pv 6) pa_nil)))) pa_nil)) rfl))))))))), ?_⟩
    refine ⟨_, rfl, _, rfl, _, rfl, _, rfl, v1, v2, v3, v4, d1, d2, d3, d4, rfl, h1, h2, h3, h4, o1, o2, o3, o4, fun H1 s1 => ⟨_, rfl, ?_⟩⟩
    cases eP : dParts d1 d2 d3 d4 with
    | false => exact iteT (kE eP H1 s1)
    | true =>
      refine iteF ?_
      have hx1 := s1 _ _ hx
      refine ⟨_, rfl, _, rfl, x, _, dx, _, rfl, hx1, T.cl_Route, T.at_Route_start, by decide, ?_⟩
      rw [fs1]
      refine ⟨_, rfl, _, rfl, x, _, dx, _, rfl, upd_same, T.cl_Route, T.at_Route_arguments, by show 1 < 1000; decide, ?_⟩
      rw [upd_upd, fs2]
      refine ⟨_, rfl, _, rfl, x, _, dx, _, rfl, upd_same, T.cl_Route, T.at_Route_rows, by show 2 < 1000; decide, ?_⟩
      rw [upd_upd, fs3]
      refine ⟨_, rfl, _, rfl, x, _, dx, _, rfl, upd_same, T.cl_Route, T.at_Route_legs, by show 3 < 1000; decide, ?_⟩
      rw [upd_upd, fs4]
      refine ⟨(by show 0 ≤ sizeLine; decide), fun q hq => ?_⟩
      have nq : x ≠ q := fun e => by rw [← e, upd_same] at hq; cases hq
      refine ⟨_, rfl, x, _, dx, _, rfl, by rw [upd_ne nq]; exact upd_same, T.cl_Route, T.at_Route_counts, by show 4 < 1000; decide, ?_⟩
      rw [fs5]
      have hq1 : H1 q = none := by rw [upd_ne nq.symm] at hq; exact hq
      have sx : SameX x H1 (upd (upd (upd H1 x (.ins T.C_Route dx [("start", v1), ("arguments", v2), ("rows", v3), ("legs", v4)])) q (.lst [])) x (.ins T.C_Route dx [("start", v1), ("arguments", v2), ("rows", v3), ("legs", v4), ("counts", .ref q)])) := fun b o n e => by
        rw [upd_ne n, upd_ne (ne_of_none e hq1), upd_ne n]
        exact e
      have hx6 : (upd (upd (upd H1 x (.ins T.C_Route dx [("start", v1), ("arguments", v2), ("rows", v3), ("legs", v4)])) q (.lst [])) x (.ins T.C_Route dx [("start", v1), ("arguments", v2), ("rows", v3), ("legs", v4), ("counts", .ref q)])) x = some (.ins T.C_Route dx [("start", v1), ("arguments", v2), ("rows", v3), ("legs", v4), ("counts", .ref q)]) := upd_same
      have hq6 : (upd (upd (upd H1 x (.ins T.C_Route dx [("start", v1), ("arguments", v2), ("rows", v3), ("legs", v4)])) q (.lst [])) x (.ins T.C_Route dx [("start", v1), ("arguments", v2), ("rows", v3), ("legs", v4), ("counts", .ref q)])) q = some (.lst []) := by rw [upd_ne nq.symm]; exact upd_same
      generalize upd (upd (upd H1 x (.ins T.C_Route dx [("start", v1), ("arguments", v2), ("rows", v3), ("legs", v4)])) q (.lst [])) x (.ins T.C_Route dx [("start", v1), ("arguments", v2), ("rows", v3), ("legs", v4), ("counts", .ref q)]) = H6 at sx hx6 hq6
      obtain ⟨r, l, rfl, rfl, hR, hL⟩ := parts_of eP
      obtain ⟨lr, mr⟩ := ok_in o3
      obtain ⟨ll, ml⟩ := ok_in o4
      have h3' := h3.same s1
      have h4' := h4.same s1
      cases h3' with
      | tup ha3 hall3 =>
      cases h4' with
      | tup ha4 hall4 =>
      rename_i a3 xs3 a4 xs4
      have na3 : a3 ≠ x := fun e => by rw [e, hx1] at ha3; cases ha3
      have na4 : a4 ≠ x := fun e => by rw [e, hx1] at ha4; cases ha4
      refine ⟨_, rfl, a3, rfl, ⟨_, .inl (.inl (sx _ _ na3 ha3))⟩, ?_⟩
      refine for_tup (K := K) (a := a3) (xs := xs3) (fun i σ H7 => ∃ v5, σ = [some (.ref x), some v1, some v2, some (.ref a3), some (.ref a4), v5, none] ∧ SameX x H1 H7 ∧ H7 x = some (.ins T.C_Route dx [("start", v1), ("arguments", v2), ("rows", .ref a3), ("legs", .ref a4), ("counts", .ref q)]) ∧ H7 q = some (.lst ((rowCs (r.take i)).map V.int)))
        ⟨none, rfl, sx, hx6, hq6⟩ (fun i σ H7 _ ⟨_, _, s7, _⟩ => .inl (.inl (s7 _ _ na3 ha3))) ?_ ?_
      · rintro i y σ H7 hy ⟨v5, rfl, s7, hx7, hq7⟩
        obtain ⟨e, he, hde⟩ := hall3.get hy
        have hde7 := hde.sameX hx1 s7
        have hi : i < r.length := (List.getElem?_eq_some_iff.mp he).1
        obtain ⟨e0, e1, cds, rfl, hcd⟩ := row_of (hR i e he)
        obtain ⟨_, m2⟩ := ok_in (mr _ (List.mem_of_getElem? he))
        obtain ⟨lc, _⟩ := ok_in (m2 (.tuple cds) (by simp))
        cases hde7 with
        | tup hra hrall =>
        rename_i ra rxs
        match rxs, hrall with
        | [w0, w1, w2], .cons q0 (.cons q1 (.cons q2 .nil)) =>
        have lcs : (rowCs (r.take i)).length = i := by rw [rowCs_len, List.length_take]; omega
        refine ⟨_, rfl, x, _, dx, _, _, rfl, hx7, T.cl_Route, T.at_Route_counts, rfl, .inl ⟨rfl, _, .inl (.inl hq7)⟩, ?_⟩
        refine ⟨_, rfl, x, dx, _, rfl, hx7, rfl, _, rfl, ra, _, _, _, rfl, rfl, .inl (.inl hra), atI_nat (j := 2) rfl, x, dx, q, _, rowCs (r.take i), w2, cds, rfl, hx7, rfl, hq7, q2, lc, by rw [lcs]; exact hcd, fun H8 s8 => ?_⟩
        refine ⟨q, _, _, rfl, rfl, s8 _ _ hq7, small1000 (by rw [List.length_map, lcs]; omega), ?_⟩
        refine ⟨_, rfl, fun b o n e => ?_, ?_, ?_⟩
        · rw [upd_ne (ne_of_none e hq1)]
          exact s8 _ _ (s7 _ _ n e)
        · rw [upd_ne nq]
          exact s8 _ _ hx7
        · rw [upd_same, takes2 he, rowCs_app, List.map_append]; rfl
      · rintro σ H7 ⟨v5, rfl, s7, hx7, hq7⟩
        rw [hall3.len, List.take_length] at hq7
        have lcs : (rowCs r).length = r.length := rowCs_len r
        refine ⟨_, rfl, a4, rfl, ⟨_, .inl (.inl (s7 _ _ na4 ha4))⟩, fun D hD => ?_⟩
        refine lc_out (walk_tup (K := K) (a := a4) (xs := xs4)) (fun i => .int (cnts (rowCs r) (l.getD i .none))) (by rw [hall4.len]; exact ll) hD (fun H1 s1 => .inl (.inl (s1 _ _ (s7 _ _ na4 ha4)))) ?_ ?_
        · rintro i y H8 H9 Qg hi s8 ⟨rfl, hy⟩ kk
          obtain ⟨e, he, hde⟩ := hall4.get hy
          have hde9 := (hde.sameX hx1 s7).same s8
          obtain ⟨cds, rfl, hcd⟩ := chs_of (hL e (List.mem_of_getElem? he))
          obtain ⟨lc, _⟩ := ok_in (ml _ (List.mem_of_getElem? he))
          refine kk _ _ (Same.refl _) rfl fun R hR => ?_
          rw [getD_of he] at hR
          exact ⟨_, rfl, x, dx, _, rfl, s8 _ _ hx7, rfl, _, rfl, x, dx, q, _, rowCs r, y, cds, rfl, s8 _ _ hx7, rfl, s8 _ _ hq7, hde9, lc, by rw [lcs]; exact hcd, hR⟩
        · intro H8 s8 hl8
          rw [show (List.range xs4.length).map (fun i => V.int (cnts (rowCs r) (l.getD i .none))) = ((List.range xs4.length).map fun i => cnts (rowCs r) (l.getD i .none)).map V.int by rw [List.map_map]; rfl] at hl8
          refine ⟨D, _, rfl, .inl (.inl hl8), _, rfl, x, _, dx, _, rfl, s8 _ _ hx7, T.cl_Route, T.at_Route_count, by show 5 < 1000; decide, ?_⟩
          rw [fs6, hall4.len, map_range]
          refine k eP r l _ rfl rfl ?_ ⟨⟨dx, q, upd_same, ?_⟩⟩
          · exact fun b o n e => by rw [upd_ne n]; exact s8 _ _ (s7 _ _ n (s1 _ _ e))
          · rw [upd_ne nq.symm]; exact s8 _ _ hq7
end
end Sn

/-! ## tuple(xs) and t[lo:hi] in a comprehension: the knowledge named -/
namespace Sn
open PySem PySem.Spec PyProof.Rows L2
section
variable {X : Cx}
theorem call_tupleN {K : PySem.W.Frag} (hK : X.K = K := by rfl) : CallR X (.type "tuple") (fun xs H Q => ∃ p ys, xs = [.ref p] ∧ ((SqL K H p ys ∧ ∀ l, H l = none → Q (.ref l) (upd H l (.tup ys))) ∨ (SqT K H p ys ∧ Q (.ref p) H))) := by
  subst hK
  exact call_tuple_of
theorem sl_tupN {K : PySem.W.Frag} (hK : X.K = K := by rfl) : SlR X (rSlA K) := by
  subst hK
  exact sl_tupA
end
end Sn

/-! ## Data of tuples alone: it stays while lists are changed -/
namespace Sn
open PySem PySem.Spec PyProof.Rows L2
def MvT (H H' : Hp) : Prop := ∀ a xs, H a = some (.tup xs) → H' a = some (.tup xs)
def St1 (H : Hp) (v : V) (dd : PyData) : Prop := ∀ H', MvT H H' → Dh H' v dd
def StA (H : Hp) (vs : List V) (ds : List PyData) : Prop := ∀ H', MvT H H' → DhAll H' vs ds
section
variable {d g c : Addr} {H H' : Hp} {m : Nat} {v : V} {vs : List V} {dd : PyData} {ds : List PyData} {K : PySem.W.Frag}
theorem MvT.refl : MvT H H := fun _ _ e => e
theorem MvT.trans {H2 : Hp} (a : MvT H H') (b : MvT H' H2) : MvT H H2 := fun x xs e => b _ _ (a _ _ e)
theorem MvT.same (s : Same H H') : MvT H H' := fun a xs e => s _ _ e
theorem MvT.mv (D : Dr H d g c m) (v : Mv d g H H') : MvT H H' := fun a xs e => by
  obtain ⟨⟨l, k, _, _, hd⟩, ⟨gs, hg⟩, _, _⟩ := D
  exact v _ _ (fun z => by rw [z, hd] at e; cases e) (fun z => by rw [z, hg] at e; cases e) e
theorem MvT.put {B : Addr} {l l' : List V} (h : H B = some (.lst l)) : MvT H (upd H B (.lst l')) := fun a xs e => by
  rw [upd_ne (fun z => by rw [z, h] at e; cases e)]
  exact e
theorem St1.mv (h : St1 H v dd) (m : MvT H H') : St1 H' v dd := fun H2 m2 => h H2 (m.trans m2)
theorem StA.mv (h : StA H vs ds) (m : MvT H H') : StA H' vs ds := fun H2 m2 => h H2 (m.trans m2)
theorem StA.nil : StA H [] [] := fun _ _ => .nil
theorem StA.cons (h : St1 H v dd) (a : StA H vs ds) : StA H (v :: vs) (dd :: ds) := fun H' m => .cons (h H' m) (a H' m)
theorem StA.app {ws : List V} {es : List PyData} (a : StA H vs ds) (b : StA H ws es) : StA H (vs ++ ws) (ds ++ es) := fun H' m => (a H' m).app (b H' m)
theorem StA.at (h : StA H vs ds) : DhAll H vs ds := h H .refl
theorem St1.str (z : Str) : St1 H (.str z) (.str z) := fun _ _ => .str z
theorem StA.all (h : ∀ H2, DhAll H2 vs ds) : StA H vs ds := fun H' _ => h H'
theorem St1.tup {p : Addr} (hp : H p = none) (a : StA H vs ds) : St1 (upd H p (.tup vs)) (.ref p) (.tuple ds) := fun H' mv =>
  .tup (mv _ _ upd_same) (a H' ((MvT.same (same_new hp)).trans mv))
theorem St1.sd (D : Dr H d g c m) (h : St1 H v dd) : Sd d g H v dd := fun H' mv => h H' (MvT.mv D mv)
theorem St1.tupAt (h : St1 H v (.tuple ds)) : ∃ a xs, v = .ref a ∧ H a = some (.tup xs) ∧ StA H xs ds := by
  have h0 := h H .refl
  cases h0 with
  | tup ha hall =>
    rename_i a xs
    refine ⟨a, xs, rfl, ha, fun H' mv => ?_⟩
    have h1 := h H' mv
    cases h1 with
    | tup hb hall' =>
      rw [mv _ _ ha] at hb
      cases hb
      exact hall'
theorem StA.cut (a : StA H vs ds) (lo hi : Option Int) : StA H (cutV vs lo hi) (cutD ds lo hi) := fun H' m => by
  have b := a H' m
  unfold cutV cutD
  rw [b.len]
  exact (b.drop _).take _
/-- t[lo:hi] -/
theorem slA_st {a : Addr} {lo hi : Option Int} {Q : VK} (h : St1 H (.ref a) (.tuple ds)) (k : ∀ p H', Same H H' → St1 H' (.ref p) (.tuple (cutD ds lo hi)) → Q (.ref p) H') : rSlA K (.ref a) lo hi H Q := by
  obtain ⟨a', xs, e, ha, hs⟩ := h.tupAt
  cases e
  refine ⟨a, xs, rfl, .inl (.inl ha), fun w => ?_, fun _ p hp => ?_⟩
  · rw [hs.at.len] at w
    refine k a H (Same.refl _) ?_
    rw [cut_whole w]
    exact h
  · exact k p _ (same_new hp) (St1.tup hp (hs.cut lo hi))
end
end Sn

/-! ## law_k42: the law -/
namespace Sn
open PySem PySem.Spec PyProof.Rows L2 TL
theorem ok_mc {c : Nat} (h : c < 128) : okD 10 2 (.str (("m." : Str) ++ ⟨#[c]⟩)) = true := by
  have e : (("m." : Str) ++ (⟨#[c]⟩ : Str)).cps.toList = [109, 46, c] := by
    have h1 : tl (("m." : Str) ++ (⟨#[c]⟩ : Str)) = tl ("m." : Str) ++ [c] := tl_append _ _
    have h2 : tl ("m." : Str) = [109, 46] := by decide +kernel
    rw [h2] at h1
    exact h1
  simp only [okD, Bool.and_eq_true, decide_eq_true_eq]
  refine ⟨?_, ?_⟩
  · rw [len_tl]
    show (("m." : Str) ++ (⟨#[c]⟩ : Str)).cps.toList.length ≤ 1000
    rw [e]
    show 3 ≤ 1000
    decide
  · rw [e]
    simp [h]
theorem abc6 : ∀ j, j < 6 → ∃ c, ("abcdef" : Str).cps.toList[j]? = some c ∧ c < 128 := by
  intro j hj
  have e : ("abcdef" : Str).cps.toList = [97, 98, 99, 100, 101, 102] := by decide +kernel
  rw [e]
  match j, hj with
  | 0, _ => exact ⟨_, rfl, by decide⟩
  | 1, _ => exact ⟨_, rfl, by decide⟩
  | 2, _ => exact ⟨_, rfl, by decide⟩
  | 3, _ => exact ⟨_, rfl, by decide⟩
  | 4, _ => exact ⟨_, rfl, by decide⟩
  | 5, _ => exact ⟨_, rfl, by decide⟩
section
variable {P : Program} {w : World} {K : PySem.W.Frag} {mg : Str → Option Value} {base : Heap}
theorem kit_selfR (T : Txt K mg) : PySem.W.kitOne K (.ref T.C_BadRoute) (.ref T.C_BadRoute) = some true := by
  unfold PySem.W.kitOne
  rw [if_pos (by simp)]
theorem kit_case (T : Txt K mg) : PySem.W.kitOne K (.ref T.C_BadRoute) (.ref T.C_BadCase) = some false := by
  obtain ⟨cd, h1, h2⟩ := T.mr_BadRoute
  obtain ⟨cd2, h3, _⟩ := T.mr_BadCase
  have d := T.dif
  simp only [List.nodup_cons, List.mem_cons, List.not_mem_nil, or_false, not_or] at d
  have ne : T.C_BadRoute ≠ T.C_BadCase := fun e => d.2.1 e.symm
  have ne2 : T.C_BadCase ≠ T.C_SpareError := fun e => d.1.1 e.symm
  unfold PySem.W.kitOne
  rw [if_neg (by simpa using ne)]
  unfold PySem.W.kitCls
  simp only [h3, T.ty_BadCase, Option.isSome_some, beq_self_eq_true, Bool.and_self, if_true]
  show PySem.W.mroIn K _ _ = _
  unfold PySem.W.mroIn
  rw [h1, Option.bind_some, h2]
  simp [ne.symm, ne2]
theorem kit_veR (T : Txt K mg) : PySem.W.kitOne K (.ref T.C_BadRoute) (.type "ValueError") = some true := by
  obtain ⟨cd, h1, h2⟩ := T.mr_BadRoute
  unfold PySem.W.kitOne
  rw [if_neg (by simp)]
  have km : PySem.W.kitMeta "ValueError" = true := by decide +kernel
  unfold PySem.W.kitCls
  simp only [km, if_true]
  show PySem.W.mroIn K _ _ = _
  unfold PySem.W.mroIn
  rw [h1, Option.bind_some, h2]
  rfl
/-- the law: a list of at most 63 ints is handed in, True comes out -/
def spLaw (K : PySem.W.Frag) : Sp := fun vs H Q _ => ∃ (a : Addr) (ns : List Int), vs = [.ref a] ∧ SqL K H a (ns.map V.int) ∧ ns.length ≤ 63 ∧ ∀ H', Q (.bl true) H'
theorem ok_law (T : Txt K mg) (hP : PrOk P) : FnOk P w K mg base CX0 8 T.f_law T.fd_law ["_law_script"] (spLaw K) := by
  have GI : FnOk P w K mg base (L2.CX P w) 6 T.f_Route_init T.fd_Route_init ["self", "start", "arguments", "rows", "legs"] (spInit T.C_Route T.C_BadRoute) := ok_initR T
  refine T.F_law.ok sc_law (fun vs H Q E h => ?_) (fun cdv A outer s H vs Q E hr h => ?_)
  · obtain ⟨a, ns, rfl, _⟩ := h
    rfl
  · obtain ⟨a, ns, rfl, hS, hl, k⟩ := h
    refine ⟨_, (pss_cons (ps_set (i := 1) sc_law.nd rfl (Or.inr rfl) (pe_call (ok_begun T) (hr.mono (by decide)) rfl T.g_law_begun T.F_law_begun.kp T.b_law_begun .nil pass0 (pa_cons (pv 0) pa_nil)))
      (pss_cons (ps_set (i := 2) sc_law.nd rfl (Or.inl rfl) (pe_call (ok_pick T) (hr.mono (by decide)) rfl T.g_law_pick T.F_law_pick.kp T.b_law_pick .nil pass0 (pa_cons (pv 1) (pa_cons (pe_lst (pa_cons pe_int (pa_cons pe_int (pa_cons pe_int (pa_cons pe_int pa_nil))))) pa_nil))))
      (pss_cons (ps_set (i := 3) sc_law.nd rfl (Or.inr rfl) (pe_call (ok_take T) (hr.mono (by decide)) rfl T.g_law_take T.F_law_take.kp T.b_law_take .nil pass0 (pa_cons (pv 1) (pa_cons pe_int pa_nil))))
      (pss_cons (ps_set (i := 4) sc_law.nd rfl (Or.inl rfl) (pe_callTy call_tuple_of (by rfl) T.z_tuple (by decide +kernel) (pa_cons (pe_lc (own := [("_law_k", 11)]) (g := gName 11) (by rfl) sc_law.nd (pi_range1 (by rfl) T.z_range (pa_cons (pv 3) pa_nil)) (blkOk_by (own := [("_law_k", 11)]) (N := n_law) (sc := defScope s_law) (by decide +kernel)) (fun _ _ _ _ _ => (pg_name (i := 11) sc_law.nd rfl (Or.inl rfl))) (fun _ _ _ _ _ => pts_nil) (fun _ _ _ _ _ => (pe_tup (pa_cons (pe_op op_add_str pe_str (pe_ix ix_str pe_str (pv 11) (fun _ _ => rfl))) (pa_cons (pe_slice (sl_tupN (K := K)) (pe_tup (pa_cons pe_str (pa_cons pe_str pa_nil))) po_none (po_some (pe_op op_modN (pv 11) pe_int))) (pa_cons (pe_callTy (call_tupleN (K := K)) (by rfl) T.z_tuple (by decide +kernel) (pa_cons (pe_call (ok_draws T) (hr.mono (by decide)) rfl T.g_law_choices T.F_law_choices.kp T.b_law_choices .nil pass0 (pa_cons (pv 1) (pa_cons (pv 11) pa_nil))) pa_nil)) pa_nil)))))) pa_nil)))
      (pss_cons (ps_set (i := 6) sc_law.nd rfl (Or.inl rfl) (pe_callTy call_tuple_of (by rfl) T.z_tuple (by decide +kernel) (pa_cons (pe_lc (own := [("_law_turn", 5)]) (g := gName 5) (by rfl) sc_law.nd (pi_range1 (by rfl) T.z_range (pa_cons (pe_call (ok_take T) (hr.mono (by decide)) rfl T.g_law_take T.F_law_take.kp T.b_law_take .nil pass0 (pa_cons (pv 1) (pa_cons pe_int pa_nil))) pa_nil)) (blkOk_by (own := [("_law_turn", 5)]) (N := n_law) (sc := defScope s_law) (by decide +kernel)) (fun _ _ _ _ _ => (pg_name (i := 5) sc_law.nd rfl (Or.inl rfl))) (fun _ _ _ _ _ => pts_nil) (fun _ _ _ _ _ => (pe_callTy (call_tupleN (K := K)) (by rfl) T.z_tuple (by decide +kernel) (pa_cons (pe_call (ok_draws T) (hr.mono (by decide)) rfl T.g_law_choices T.F_law_choices.kp T.b_law_choices .nil pass0 (pa_cons (pv 1) (pa_cons (pv 3) pa_nil))) pa_nil)))) pa_nil)))
      (pss_cons (ps_set (i := 7) sc_law.nd rfl (Or.inl rfl) (pe_tup (pa_cons (pe_tup (pa_cons pe_str (pa_cons pe_str (pa_cons pe_str pa_nil)))) (pa_cons (pe_slice sl_tupA (pe_tup (pa_cons pe_str (pa_cons pe_str pa_nil))) po_none (po_some (pe_call (ok_take T) (hr.mono (by decide)) rfl T.g_law_take T.F_law_take.kp T.b_law_take .nil pass0 (pa_cons (pv 1) (pa_cons pe_int pa_nil))))) (pa_cons (pv 4) (pa_cons (pv 6) pa_nil))))))
      (pss_cons (ps_for PassesOwn.never rfl (pi_range1 (by rfl) T.z_range (pa_cons (pv 2) pa_nil)) (pg_name (i := 5) sc_law.nd rfl (Or.inl rfl))
        (pss_one (ps_set (i := 7) sc_law.nd rfl (Or.inl rfl) (pe_call (ok_spoilt T) (hr.mono (by decide)) rfl T.g_law_spoilt T.F_law_spoilt.kp T.b_law_spoilt .nil pass0 (pa_cons (pv 1) (pa_cons (pv 7) pa_nil))))))
      (pss_cons (ps_set (i := 8) sc_law.nd rfl (Or.inl rfl) pe_non)
      (pss_cons (ps_set (i := 9) sc_law.nd rfl (Or.inl rfl) pe_non)
      (pss_cons (ps_try_keep (i := 10) rfl rfl rfl sc_law.nd rfl rfl ⟨rfl, by decide, .inl T.gC_SpareError⟩
        (fun W pn xe tk _ => (pss_one (ps_set (i := 9) sc_law.nd rfl (Or.inl rfl) (pe_makeT T.mk_Route (GI) (hr.mono (by decide)) rfl T.gC_Route T.b_Route_init (fun σ => passAt tk σ) (pa_cons (pe_ix (ix_tupK (K := K)) (pv 7) pe_int (fun _ _ => rfl)) (pa_cons (pe_ix (ix_tupK (K := K)) (pv 7) pe_int (fun _ _ => rfl)) (pa_cons (pe_ix (ix_tupK (K := K)) (pv 7) pe_int (fun _ _ => rfl)) (pa_cons (pe_ix (ix_tupK (K := K)) (pv 7) pe_int (fun _ _ => rfl)) pa_nil))))))))
        (fun a oe cls d pn hz hf => (pss_one (ps_set (i := 8) sc_law.nd rfl (Or.inl rfl) (pv 10)))))
      (pss_cons (ps_if (pt_not (pt_val (pe_call (ok_lparts T) (hr.mono (by decide)) rfl T.g_law_are_parts T.F_law_are_parts.kp T.b_law_are_parts .nil pass0 (pa_cons (pv 7) pa_nil))))
        (pss_one (ps_ret (pe_and (pe_callB call_isX (by rfl) T.z_isinstance (by decide +kernel) (pa_cons (pv 8) (pa_cons (pe_glob (v := .ref T.C_BadRoute) rfl T.gC_BadRoute rfl) pa_nil))) (pe_and (pe_not (pe_callB call_isX (by rfl) T.z_isinstance (by decide +kernel) (pa_cons (pv 8) (pa_cons (pe_glob (v := .ref T.C_BadCase) rfl T.gC_BadCase rfl) pa_nil)))) (pe_one (pe_callB call_isX (by rfl) T.z_isinstance (by decide +kernel) (pa_cons (pv 8) (pa_cons (pe_bltn (v := .ty "ValueError") (by rfl) T.z_ValueError (by decide +kernel) rfl) pa_nil))))))))
        pss_nil)
      (pss_one (ps_ret (pe_and (pe_cmpR op_isN (pv 8) pe_non (nomark _)) (pe_one (pe_cmpR (op_eqDK (K := K) hr.units) (pe_tup (pa_cons (pe_fldK (K := K) (pv 9)) (pa_cons (pe_fldK (K := K) (pv 9)) (pa_cons (pe_fldK (K := K) (pv 9)) (pa_cons (pe_fldK (K := K) (pv 9)) pa_nil))))) (pv 7) (nomark _))))))))))))))))), ?_⟩
    refine ⟨_, rfl, a, ns, rfl, hS, by omega, fun d g c H1 nd ng nc D1 s1 => ?_⟩
    refine ⟨_, rfl, (by show 4 ≤ sizeLine; decide), fun L hL => ?_⟩
    have tL := same_new (o := .lst [.int 0, .int 1, .int 1, .int 2]) hL
    have nL := dr_new D1 hL
    refine ⟨d, g, c, _, D1.same tL, by omega, .inr ⟨L, _, rfl, upd_same, nL.2.1, by show 0 < 4; decide, by show 4 ≤ 1000; decide, fun x H2 hx D2 mv2 => ?_⟩⟩
    obtain ⟨sp, hsp, rfl⟩ : ∃ sp : Nat, sp ≤ 2 ∧ x = .int sp := by
      simp only [List.mem_cons, List.not_mem_nil, or_false] at hx
      rcases hx with rfl | rfl | rfl | rfl
      · exact ⟨0, by decide, rfl⟩
      · exact ⟨1, by decide, rfl⟩
      · exact ⟨1, by decide, rfl⟩
      · exact ⟨2, by decide, rfl⟩
    refine ⟨_, rfl, d, g, c, _, _, rfl, D2, by omega, by decide, by decide, fun r H3 r0 r1 D3 mv3 => ?_⟩
    obtain ⟨n, rfl⟩ := Int.eq_ofNat_of_zero_le r0
    -- the rows
    refine ⟨_, rfl, _, rfl, by omega, by omega, fun B hB => ?_⟩
    have nB := dr_new D3 hB
    refine lc_range (lo := 0) (n := n) (fun j H4 => ∃ (xs : List V) (ds : List PyData), H4 B = some (.lst xs) ∧ StA H4 xs ds ∧ ds.length = j ∧ (∀ x ∈ ds, okD 10 3 x = true) ∧ Dr H4 d g c (2 + 10 * j) ∧ Mv d g H3 H4)
      ⟨[], [], upd_same, .nil, rfl, (fun x hx => nomatch hx), D3.same (same_new hB), Mv.same (same_new hB)⟩ ?_ ?_
    · rintro j H4 hj ⟨xs, ds, hB4, hall, hlen, hok, D4, mv4⟩
      refine ⟨rfl, ?_⟩
      obtain ⟨ch, hch, hc128⟩ := abc6 j (by omega)
      have lm : ("m." : Str).length = 2 := by decide +kernel
      refine ⟨_, rfl, "abcdef", _, ch, rfl, rfl, by decide +kernel, by rw [Int.zero_add]; exact atI_nat hch, _, _, rfl, rfl, by rw [lm, sizeLine_eq]; show 2 + 1 ≤ _; omega, ?_⟩
      refine ⟨(by show 2 ≤ sizeLine; decide), fun p1 h1 => ⟨_, rfl, _, _, rfl, rfl, by show (3 : Int) ≠ 0; decide, _, rfl, slA_st (St1.tup h1 (.cons (.str _) (.cons (.str _) .nil))) fun p2 H5 s5 q2 => ?_⟩⟩
      have t1 := same_new (o := .tup [.str "", .str "!"]) h1
      have D5 := (D4.same t1).same s5
      refine ⟨_, rfl, _, rfl, d, g, c, _, j, by rw [Int.zero_add]; rfl, D5, by omega, by omega, fun q ys es H6 hq0 hq6 hes le oes D6 mv6 => ?_⟩
      refine ⟨q, ys, rfl, .inl ⟨.inl (.inl hq6), fun t ht => ⟨(by show 3 ≤ sizeLine; decide), fun p3 h3 => ?_⟩⟩⟩
      have tt := same_new (o := .tup ys) ht
      have t3 := same_new (o := .tup [.str ("m." ++ ⟨#[ch]⟩), .ref p2, .ref t]) h3
      have S45 := t1.trans s5
      have mvT6 := (MvT.same S45).trans (MvT.mv D5 mv6)
      have mvT8 := (mvT6.trans (MvT.same tt)).trans (MvT.same t3)
      have q2' := (((q2.mv (MvT.mv D5 mv6)).mv (MvT.same tt)).mv (MvT.same t3))
      have q3 := (St1.tup ht (StA.all hes)).mv (MvT.same t3)
      have q4 := St1.tup h3 (.cons (.str ("m." ++ ⟨#[ch]⟩)) (.cons ((q2.mv (MvT.mv D5 mv6)).mv (MvT.same tt)) (.cons (St1.tup ht (StA.all hes)) .nil)))
      have hB8 := (tt.trans t3) _ _ (mv6 _ _ nB.1 nB.2.1 (S45 _ _ hB4))
      have D8 := (D6.same tt).same t3
      have mv8 := ((mv4.trans (Mv.same S45)).trans mv6).trans (Mv.same (tt.trans t3))
      refine ⟨_, hB8, small1000 (by rw [hall.at.len, hlen]; omega), xs ++ [.ref p3], ds ++ [.tuple [.str ("m." ++ ⟨#[ch]⟩), .tuple (cutD [.str "", .str "!"] none (some ((0 + (j : Int)).fmod 3))), .tuple es]], upd_same, ?_, by rw [List.length_append, hlen]; rfl, fun x hx => ?_, (D8.upd nB).mono (by omega), mv8.put hB⟩
      · exact ((hall.mv mvT8).app (.cons q4 .nil)).mv (MvT.put hB8)
      · rcases List.mem_append.mp hx with hx | hx
        · exact hok x hx
        · rw [List.mem_singleton.mp hx]
          refine okT (by show 3 ≤ 10; decide) fun y hy => ?_
          simp only [List.mem_cons, List.not_mem_nil, or_false] at hy
          rcases hy with rfl | rfl | rfl
          · exact ok_mc hc128
          · refine okT (Nat.le_trans (cut_len _ _ _) (by show 2 ≤ 10; decide)) fun z hz => ?_
            have := cut_mem hz
            simp only [List.mem_cons, List.not_mem_nil, or_false] at this
            rcases this with rfl | rfl
            · decide +kernel
            · decide +kernel
          · exact okT (by omega) fun z hz => okD_mono (by omega) (by omega) (oes z hz)
    rintro H4 ⟨xs, ds, hB4, hall, hlen, hok, D4, mv4⟩
    refine ⟨B, xs, rfl, .inl ⟨.inl (.inl hB4), fun R hR => ?_⟩⟩
    have tR := same_new (o := .tup xs) hR
    have qR := St1.tup hR hall
    have oR : okD 10 4 (.tuple ds) = true := okT (by omega) hok
    have D5 := D4.same tR
    generalize upd H4 R (.tup xs) = H5 at tR qR D5
    -- the legs
    refine ⟨_, rfl, d, g, c, _, _, rfl, D5, by omega, by decide, by decide, fun r H6 r0 r1 D6 mv6 => ?_⟩
    obtain ⟨n2, rfl⟩ := Int.eq_ofNat_of_zero_le r0
    refine ⟨_, rfl, by omega, by omega, fun B2 hB2 => ?_⟩
    have nB2 := dr_new D6 hB2
    refine lc_range (lo := 0) (n := n2) (fun j H7 => ∃ (xs : List V) (ds : List PyData), H7 B2 = some (.lst xs) ∧ StA H7 xs ds ∧ ds.length = j ∧ (∀ x ∈ ds, okD 10 3 x = true) ∧ Dr H7 d g c (100 + 10 * j) ∧ Mv d g H6 H7)
      ⟨[], [], upd_same, .nil, rfl, (fun x hx => nomatch hx), (D6.same (same_new hB2)).mono (by omega), Mv.same (same_new hB2)⟩ ?_ ?_
    · rintro j H7 hj ⟨xs, ds, hB4, hall, hlen, hok, D7, mv7⟩
      refine ⟨rfl, ?_⟩
      refine ⟨_, rfl, _, rfl, d, g, c, _, n, rfl, D7, by omega, by omega, fun q ys es H8 hq0 hq6 hes le oes D8 mv8 => ?_⟩
      refine ⟨q, ys, rfl, .inl ⟨.inl (.inl hq6), fun t ht => ?_⟩⟩
      have tt := same_new (o := .tup ys) ht
      have hB8 := tt _ _ (mv8 _ _ nB2.1 nB2.2.1 hB4)
      refine ⟨_, hB8, small1000 (by rw [hall.at.len, hlen]; omega), xs ++ [.ref t], ds ++ [.tuple es], upd_same, ?_, by rw [List.length_append, hlen]; rfl, fun x hx => ?_, ((D8.same tt).upd nB2).mono (by omega), ((mv7.trans mv8).trans (Mv.same tt)).put hB2⟩
      · exact ((hall.mv ((MvT.mv D7 mv8).trans (MvT.same tt))).app (.cons (St1.tup ht (StA.all hes)) .nil)).mv (MvT.put hB8)
      · rcases List.mem_append.mp hx with hx | hx
        · exact hok x hx
        · rw [List.mem_singleton.mp hx]
          exact okT (by omega) fun z hz => okD_mono (by omega) (by omega) (oes z hz)
    rintro H7 ⟨xs2, ds2, hB7, hall2, hlen2, hok2, D7, mv7⟩
    refine ⟨B2, xs2, rfl, .inl ⟨.inl (.inl hB7), fun G hG => ?_⟩⟩
    have tG := same_new (o := .tup xs2) hG
    have qG := St1.tup hG hall2
    have oG : okD 10 4 (.tuple ds2) = true := okT (by omega) hok2
    have D8 := D7.same tG
    have qR8 := qR.mv (((MvT.mv D5 mv6).trans (MvT.mv D6 mv7)).trans (MvT.same tG))
    generalize upd H7 G (.tup xs2) = H8 at tG qG D8 qR8
    have DD : Dr H8 d g c 200 := D8.mono (by omega)
    clear D8
    -- the parts
    refine ⟨(by show 3 ≤ sizeLine; decide), fun c1 hc1 => ⟨(by show 2 ≤ sizeLine; decide), fun c2 hc2 => ?_⟩⟩
    have u1 := same_new (o := .tup [.str "client", .str "m", .str "a"]) hc1
    have u2 := same_new (o := .tup [.str "", .str "xyz"]) hc2
    have q1 := (St1.tup hc1 (.cons (.str "client") (.cons (.str "m") (.cons (.str "a") .nil)))).mv (MvT.same u2)
    have q2 := St1.tup hc2 (.cons (.str "") (.cons (.str "xyz") .nil))
    have D9 := (DD.same u1).same u2
    refine ⟨_, rfl, d, g, c, _, _, rfl, D9, by omega, by decide, by decide, fun r H9 r0 r1 D10 mv9 => ⟨_, rfl, slA_st (q2.mv (MvT.mv D9 mv9)) fun p2 H10 s10 q2' => ?_⟩⟩
    refine ⟨_, rfl, _, rfl, (by show 4 ≤ sizeLine; decide), fun pp hpp => ?_⟩
    have up := same_new (o := .tup [.ref c1, .ref p2, .ref R, .ref G]) hpp
    have m10 := (MvT.mv D9 mv9).trans (MvT.same s10)
    have m8 := ((MvT.same u1).trans (MvT.same u2)).trans m10
    have D11 := (D10.same s10).same up
    have F0 : Four d g (upd H10 pp (.tup [.ref c1, .ref p2, .ref R, .ref G])) 10 (.ref c1) (.ref p2) (.ref R) (.ref G) (.tuple [.str "client", .str "m", .str "a"]) (.tuple (cutD [.str "", .str "xyz"] none (some r))) (.tuple ds) (.tuple ds2) :=
      ⟨((q1.mv m10).mv (MvT.same up)).sd D11, (q2'.mv (MvT.same up)).sd D11, ((qR8.mv m8).mv (MvT.same up)).sd D11, ((qG.mv m8).mv (MvT.same up)).sd D11, by decide +kernel,
        okT (Nat.le_trans (cut_len _ _ _) (by show 2 ≤ 10; decide)) (fun z hz => by
          have := cut_mem hz
          simp only [List.mem_cons, List.not_mem_nil, or_false] at this
          rcases this with rfl | rfl
          · decide +kernel
          · decide +kernel), okD_mono (by omega) (by decide) oR, okD_mono (by omega) (by decide) oG⟩
    have hP0 : (upd H10 pp (.tup [.ref c1, .ref p2, .ref R, .ref G])) pp = some (.tup [.ref c1, .ref p2, .ref R, .ref G]) := upd_same
    generalize upd H10 pp (.tup [.ref c1, .ref p2, .ref R, .ref G]) = H11 at F0 hP0 D11
    generalize (V.ref c1) = w1 at F0 hP0
    generalize (V.ref p2) = w2 at F0 hP0
    generalize (V.ref R) = w3 at F0 hP0
    generalize (V.ref G) = w4 at F0 hP0
    refine ⟨_, rfl, _, rfl, by omega, by omega, ?_⟩
    generalize (PyData.tuple [.str "client", .str "m", .str "a"]) = f1 at F0
    generalize (PyData.tuple (cutD [.str "", .str "xyz"] none (some r))) = f2 at F0
    refine for_range (lo := 0) (n := sp) (fun i σ H12 => ∃ (p : Addr) (v1 v2 v3 v4 : V) (d1 d2 d3 d4 : PyData) (x4 x5 x6 : Option V), σ = [some (.ref a), some (.ref d), some (.int sp), some (.int n), x4, x5, x6, some (.ref p), none, none, none, none] ∧
        H12 p = some (.tup [v1, v2, v3, v4]) ∧ Four d g H12 (10 + 3 * i) v1 v2 v3 v4 d1 d2 d3 d4 ∧ Dr H12 d g c (300 + 10 * i))
      ⟨pp, w1, w2, w3, w4, f1, f2, _, _, _, _, _, rfl, hP0, F0, D11.mono (by omega)⟩ ?_ ?_
    · rintro i σ H12 hi ⟨p, v1, v2, v3, v4, d1, d2, d3, d4, x4, x5, x6, rfl, hp, F, D12⟩
      refine ⟨_, rfl, _, rfl, d, g, c, p, _, 10 + 3 * i, v1, v2, v3, v4, d1, d2, d3, d4, rfl, D12, by omega, by omega, by omega, hp, F, fun p' u1 u2 u3 u4 e1 e2 e3 e4 H13 hp' F' D13 mv13 => ?_⟩
      exact ⟨p', u1, u2, u3, u4, e1, e2, e3, e4, _, _, _, rfl, hp', F', D13.mono (by omega)⟩
    rintro σ H12 ⟨p, v1, v2, v3, v4, d1, d2, d3, d4, x4, x5, x6, rfl, hp, F, D12⟩
    have a1 : ∀ (i : Nat) (v : V), ([v1, v2, v3, v4] : List V)[i]? = some v → atI ([v1, v2, v3, v4] : List V) (i : Int) = some v := fun i v h => atI_nat h
    have h1 := F.q1.at
    have h2 := F.q2.at
    have h3 := F.q3.at
    have h4 := F.q4.at
    have o1 : okD 1000 20 d1 = true := okD_mono (by omega) (by decide) F.o1
    have o2 : okD 1000 20 d2 = true := okD_mono (by omega) (by decide) F.o2
    have o3 : okD 1000 20 d3 = true := okD_mono (by omega) (by decide) F.o3
    have o4 : okD 1000 20 d4 = true := okD_mono (by omega) (by decide) F.o4
    have sq : SqT K H12 p [v1, v2, v3, v4] := .inl (.inl hp)
    refine ⟨_, rfl, p, _, _, _, rfl, rfl, sq, a1 0 v1 rfl, _, rfl, p, _, _, _, rfl, rfl, sq, a1 1 v2 rfl, _, rfl, p, _, _, _, rfl, rfl, sq, a1 2 v3 rfl, _, rfl, p, _, _, _, rfl, rfl, sq, a1 3 v4 rfl, fun x dx hx hdx nx => ?_⟩
    have sA := same_new (o := .own x) hdx
    have hx2 : (upd H12 dx (.own x)) x = none := by rw [upd_ne (Ne.symm nx)]; exact hx
    have sB := sA.trans (same_new (o := .ins T.C_Route dx []) hx2)
    have npx : p ≠ x := ne_of_none hp hx
    refine ⟨x, dx, v1, v2, v3, v4, d1, d2, d3, d4, rfl, upd_same, h1.same sB, h2.same sB, h3.same sB, h4.same sB, o1, o2, o3, o4, fun eP r l H13 er el sx rt => ⟨rfl, ?_⟩, fun eP H13 s13 => ⟨T.m_BadRoute, fun e he => ⟨_, rfl, fun _ => ?_⟩⟩⟩
    · -- a route
      have hxi : (upd (upd H12 dx (.own x)) x (.ins T.C_Route dx [])) x = some (.ins T.C_Route dx []) := upd_same
      have g1 := (h1.same sB).sameX hxi sx
      have g2 := (h2.same sB).sameX hxi sx
      have g3 := (h3.same sB).sameX hxi sx
      have g4 := (h4.same sB).sameX hxi sx
      have hp13 := sx _ _ npx (sB _ _ hp)
      refine ⟨_, rfl, p, v1, v2, v3, v4, d1, d2, d3, d4, rfl, hp13, g1, g2, g3, g4, o1, o2, o3, o4, fun H14 s14 => ⟨_, rfl, ?_⟩⟩
      rw [eP]
      refine iteF ?_
      obtain ⟨dx', q, hx13, hq13⟩ := rt.at_
      have hx14 := s14 _ _ hx13
      refine ⟨_, rfl, rfl, _, rfl, iteT ?_⟩
      refine ⟨_, rfl, x, _, dx', _, _, rfl, hx14, T.cl_Route, T.at_Route_start, rfl, _, rfl, x, _, dx', _, _, rfl, hx14, T.cl_Route, T.at_Route_arguments, rfl, _, rfl, x, _, dx', _, _, rfl, hx14, T.cl_Route, T.at_Route_rows, rfl, _, rfl, x, _, dx', _, _, rfl, hx14, T.cl_Route, T.at_Route_legs, rfl, (by show 4 ≤ sizeLine; decide), fun z hz => ?_⟩
      have sz := same_new (o := .tup [v1, v2, v3, v4]) hz
      have S := s14.trans sz
      have all4 : DhAll (upd H14 z (.tup [v1, v2, v3, v4])) [v1, v2, v3, v4] [d1, d2, d3, d4] := .cons (g1.same S) (.cons (g2.same S) (.cons (g3.same S) (.cons (g4.same S) .nil)))
      have ok4 : okD 1000 21 (.tuple [d1, d2, d3, d4]) = true := okT (by show 4 ≤ 1000; decide) fun y hy => by
        simp only [List.mem_cons, List.not_mem_nil, or_false] at hy
        rcases hy with rfl | rfl | rfl | rfl
        · exact o1
        · exact o2
        · exact o3
        · exact o4
      refine ⟨_, rfl, _, _, (Dh.tup upd_same all4).dp, (Dh.tup (S _ _ hp13) all4).dp, okD_shaped ok4 (by decide), okD_shaped ok4 (by decide), ?_⟩
      rw [eqv_refl ok4]
      exact k _
    · -- none
      have se := same_new (o := ExK (.ref T.C_BadRoute) none e) he
      have S := (sB.trans s13).trans se
      refine ⟨_, rfl, p, v1, v2, v3, v4, d1, d2, d3, d4, rfl, S _ _ hp, h1.same S, h2.same S, h3.same S, h4.same S, o1, o2, o3, o4, fun H14 s14 => ⟨_, rfl, ?_⟩⟩
      rw [eP]
      refine iteT ?_
      have he14 := s14 _ _ (upd_same (H := H13) (a := e) (o := ExK (.ref T.C_BadRoute) none e))
      refine ⟨_, rfl, e, T.C_BadRoute, none, .ref T.C_BadRoute, .ref T.C_BadRoute, true, rfl, he14, .inl rfl, T.x_BadRoute, .own _, kit_selfR T, _, rfl, iteT ?_⟩
      refine ⟨_, rfl, e, T.C_BadRoute, none, .ref T.C_BadCase, .ref T.C_BadCase, false, rfl, he14, .inl rfl, T.x_BadRoute, .own _, kit_case T, _, rfl, _, rfl, iteT ?_⟩
      exact ⟨_, rfl, e, T.C_BadRoute, none, .ty "ValueError", .type "ValueError", true, rfl, he14, .inl rfl, T.x_BadRoute, .ty _, kit_veR T, k _⟩
end
end Sn

namespace Sn
open PySem PySem.Spec PyProof.Rows L2
theorem all_mk {l : PySem.W.OpenLaw} {w : World} {K : PySem.W.Frag} {h : Heap} {mg : Str → Option Value} {fa : Addr}
    {f_is_string : Addr} {od_is_string an_is_string : Option Addr} {sl_is_string : Array (Option Value)} {oc_is_string kV_is_string dc_is_string pm_is_string cd_is_string ct_is_string : Value}
    {f_is_tuple_of_strings : Addr} {od_is_tuple_of_strings an_is_tuple_of_strings : Option Addr} {sl_is_tuple_of_strings : Array (Option Value)} {oc_is_tuple_of_strings kV_is_tuple_of_strings dc_is_tuple_of_strings pm_is_tuple_of_strings cd_is_tuple_of_strings ct_is_tuple_of_strings : Value}
    {f_is_choice : Addr} {od_is_choice an_is_choice : Option Addr} {sl_is_choice : Array (Option Value)} {oc_is_choice kV_is_choice dc_is_choice pm_is_choice cd_is_choice ct_is_choice : Value}
    {f_are_choices : Addr} {od_are_choices an_are_choices : Option Addr} {sl_are_choices : Array (Option Value)} {oc_are_choices kV_are_choices dc_are_choices pm_are_choices cd_are_choices ct_are_choices : Value}
    {f_is_row : Addr} {od_is_row an_is_row : Option Addr} {sl_is_row : Array (Option Value)} {oc_is_row kV_is_row dc_is_row pm_is_row cd_is_row ct_is_row : Value}
    {f_are_parts : Addr} {od_are_parts an_are_parts : Option Addr} {sl_are_parts : Array (Option Value)} {oc_are_parts kV_are_parts dc_are_parts pm_are_parts cd_are_parts ct_are_parts : Value}
    {f_law_begun : Addr} {od_law_begun an_law_begun : Option Addr} {sl_law_begun : Array (Option Value)} {oc_law_begun kV_law_begun dc_law_begun pm_law_begun cd_law_begun ct_law_begun : Value}
    {f_law_mixed : Addr} {od_law_mixed an_law_mixed : Option Addr} {sl_law_mixed : Array (Option Value)} {oc_law_mixed kV_law_mixed dc_law_mixed pm_law_mixed cd_law_mixed ct_law_mixed : Value}
    {f_law_take : Addr} {od_law_take an_law_take : Option Addr} {sl_law_take : Array (Option Value)} {oc_law_take kV_law_take dc_law_take pm_law_take cd_law_take ct_law_take : Value}
    {f_law_pick : Addr} {od_law_pick an_law_pick : Option Addr} {sl_law_pick : Array (Option Value)} {oc_law_pick kV_law_pick dc_law_pick pm_law_pick cd_law_pick ct_law_pick : Value}
    {f_law_odd : Addr} {od_law_odd an_law_odd : Option Addr} {sl_law_odd : Array (Option Value)} {oc_law_odd kV_law_odd dc_law_odd pm_law_odd cd_law_odd ct_law_odd : Value}
    {f_law_choices : Addr} {od_law_choices an_law_choices : Option Addr} {sl_law_choices : Array (Option Value)} {oc_law_choices kV_law_choices dc_law_choices pm_law_choices cd_law_choices ct_law_choices : Value}
    {f_law_is_choice : Addr} {od_law_is_choice an_law_is_choice : Option Addr} {sl_law_is_choice : Array (Option Value)} {oc_law_is_choice kV_law_is_choice dc_law_is_choice pm_law_is_choice cd_law_is_choice ct_law_is_choice : Value}
    {f_law_are_strings : Addr} {od_law_are_strings an_law_are_strings : Option Addr} {sl_law_are_strings : Array (Option Value)} {oc_law_are_strings kV_law_are_strings dc_law_are_strings pm_law_are_strings cd_law_are_strings ct_law_are_strings : Value}
    {f_law_are_choices : Addr} {od_law_are_choices an_law_are_choices : Option Addr} {sl_law_are_choices : Array (Option Value)} {oc_law_are_choices kV_law_are_choices dc_law_are_choices pm_law_are_choices cd_law_are_choices ct_law_are_choices : Value}
    {f_law_is_row : Addr} {od_law_is_row an_law_is_row : Option Addr} {sl_law_is_row : Array (Option Value)} {oc_law_is_row kV_law_is_row dc_law_is_row pm_law_is_row cd_law_is_row ct_law_is_row : Value}
    {f_law_are_parts : Addr} {od_law_are_parts an_law_are_parts : Option Addr} {sl_law_are_parts : Array (Option Value)} {oc_law_are_parts kV_law_are_parts dc_law_are_parts pm_law_are_parts cd_law_are_parts ct_law_are_parts : Value}
    {f_law_spoilt_row : Addr} {od_law_spoilt_row an_law_spoilt_row : Option Addr} {sl_law_spoilt_row : Array (Option Value)} {oc_law_spoilt_row kV_law_spoilt_row dc_law_spoilt_row pm_law_spoilt_row cd_law_spoilt_row ct_law_spoilt_row : Value}
    {f_law_spoilt : Addr} {od_law_spoilt an_law_spoilt : Option Addr} {sl_law_spoilt : Array (Option Value)} {oc_law_spoilt kV_law_spoilt dc_law_spoilt pm_law_spoilt cd_law_spoilt ct_law_spoilt : Value}
    {f_law : Addr} {od_law an_law : Option Addr} {sl_law : Array (Option Value)} {oc_law kV_law dc_law pm_law cd_law ct_law : Value}
    {C_Route : Addr}
    {f_Route_init : Addr} {od_Route_init an_Route_init : Option Addr} {sl_Route_init : Array (Option Value)} {oc_Route_init kV_Route_init dc_Route_init pm_Route_init cd_Route_init ct_Route_init : Value}
    {f_Route_counted : Addr} {od_Route_counted an_Route_counted : Option Addr} {sl_Route_counted : Array (Option Value)} {oc_Route_counted kV_Route_counted dc_Route_counted pm_Route_counted cd_Route_counted ct_Route_counted : Value}
    {C_SpareError : Addr}
    {C_BadCase : Addr}
    {kd_BadCase : ClassData}
    {C_BadRoute : Addr}
    {kd_BadRoute : ClassData}
    (X : K.In h) (G : h.Ns mainGlobals mg) (hfa : mg "law" = some (.ref fa))
    (a_is_string : PySem.W.nsIn K mainGlobals "is_string" = some (some (.ref f_is_string)))
    (l_is_string : K.lookup f_is_string = some ⟨oc_is_string, od_is_string, .func (PySem.W.fnOf "is_string" "is_string" (defArgs s_is_string) (defBody s_is_string) (defScope s_is_string) .none kV_is_string dc_is_string pm_is_string an_is_string cd_is_string ct_is_string), sl_is_string⟩)
    (c_is_string : PySem.W.codeIn K cd_is_string "is_string" = true)
    (k_is_string : PySem.W.keepIn K (.ref f_is_string) = true)
    (a_is_tuple_of_strings : PySem.W.nsIn K mainGlobals "is_tuple_of_strings" = some (some (.ref f_is_tuple_of_strings)))
    (l_is_tuple_of_strings : K.lookup f_is_tuple_of_strings = some ⟨oc_is_tuple_of_strings, od_is_tuple_of_strings, .func (PySem.W.fnOf "is_tuple_of_strings" "is_tuple_of_strings" (defArgs s_is_tuple_of_strings) (defBody s_is_tuple_of_strings) (defScope s_is_tuple_of_strings) .none kV_is_tuple_of_strings dc_is_tuple_of_strings pm_is_tuple_of_strings an_is_tuple_of_strings cd_is_tuple_of_strings ct_is_tuple_of_strings), sl_is_tuple_of_strings⟩)
    (c_is_tuple_of_strings : PySem.W.codeIn K cd_is_tuple_of_strings "is_tuple_of_strings" = true)
    (k_is_tuple_of_strings : PySem.W.keepIn K (.ref f_is_tuple_of_strings) = true)
    (a_is_choice : PySem.W.nsIn K mainGlobals "is_choice" = some (some (.ref f_is_choice)))
    (l_is_choice : K.lookup f_is_choice = some ⟨oc_is_choice, od_is_choice, .func (PySem.W.fnOf "is_choice" "is_choice" (defArgs s_is_choice) (defBody s_is_choice) (defScope s_is_choice) .none kV_is_choice dc_is_choice pm_is_choice an_is_choice cd_is_choice ct_is_choice), sl_is_choice⟩)
    (c_is_choice : PySem.W.codeIn K cd_is_choice "is_choice" = true)
    (k_is_choice : PySem.W.keepIn K (.ref f_is_choice) = true)
    (a_are_choices : PySem.W.nsIn K mainGlobals "are_choices" = some (some (.ref f_are_choices)))
    (l_are_choices : K.lookup f_are_choices = some ⟨oc_are_choices, od_are_choices, .func (PySem.W.fnOf "are_choices" "are_choices" (defArgs s_are_choices) (defBody s_are_choices) (defScope s_are_choices) .none kV_are_choices dc_are_choices pm_are_choices an_are_choices cd_are_choices ct_are_choices), sl_are_choices⟩)
    (c_are_choices : PySem.W.codeIn K cd_are_choices "are_choices" = true)
    (k_are_choices : PySem.W.keepIn K (.ref f_are_choices) = true)
    (a_is_row : PySem.W.nsIn K mainGlobals "is_row" = some (some (.ref f_is_row)))
    (l_is_row : K.lookup f_is_row = some ⟨oc_is_row, od_is_row, .func (PySem.W.fnOf "is_row" "is_row" (defArgs s_is_row) (defBody s_is_row) (defScope s_is_row) .none kV_is_row dc_is_row pm_is_row an_is_row cd_is_row ct_is_row), sl_is_row⟩)
    (c_is_row : PySem.W.codeIn K cd_is_row "is_row" = true)
    (k_is_row : PySem.W.keepIn K (.ref f_is_row) = true)
    (a_are_parts : PySem.W.nsIn K mainGlobals "are_parts" = some (some (.ref f_are_parts)))
    (l_are_parts : K.lookup f_are_parts = some ⟨oc_are_parts, od_are_parts, .func (PySem.W.fnOf "are_parts" "are_parts" (defArgs s_are_parts) (defBody s_are_parts) (defScope s_are_parts) .none kV_are_parts dc_are_parts pm_are_parts an_are_parts cd_are_parts ct_are_parts), sl_are_parts⟩)
    (c_are_parts : PySem.W.codeIn K cd_are_parts "are_parts" = true)
    (k_are_parts : PySem.W.keepIn K (.ref f_are_parts) = true)
    (a_law_begun : PySem.W.nsIn K mainGlobals "_law_begun" = some (some (.ref f_law_begun)))
    (l_law_begun : K.lookup f_law_begun = some ⟨oc_law_begun, od_law_begun, .func (PySem.W.fnOf "_law_begun" "_law_begun" (defArgs s_law_begun) (defBody s_law_begun) (defScope s_law_begun) .none kV_law_begun dc_law_begun pm_law_begun an_law_begun cd_law_begun ct_law_begun), sl_law_begun⟩)
    (c_law_begun : PySem.W.codeIn K cd_law_begun "_law_begun" = true)
    (k_law_begun : PySem.W.keepIn K (.ref f_law_begun) = true)
    (a_law_mixed : PySem.W.nsIn K mainGlobals "_law_mixed" = some (some (.ref f_law_mixed)))
    (l_law_mixed : K.lookup f_law_mixed = some ⟨oc_law_mixed, od_law_mixed, .func (PySem.W.fnOf "_law_mixed" "_law_mixed" (defArgs s_law_mixed) (defBody s_law_mixed) (defScope s_law_mixed) .none kV_law_mixed dc_law_mixed pm_law_mixed an_law_mixed cd_law_mixed ct_law_mixed), sl_law_mixed⟩)
    (c_law_mixed : PySem.W.codeIn K cd_law_mixed "_law_mixed" = true)
    (k_law_mixed : PySem.W.keepIn K (.ref f_law_mixed) = true)
    (a_law_take : PySem.W.nsIn K mainGlobals "_law_take" = some (some (.ref f_law_take)))
    (l_law_take : K.lookup f_law_take = some ⟨oc_law_take, od_law_take, .func (PySem.W.fnOf "_law_take" "_law_take" (defArgs s_law_take) (defBody s_law_take) (defScope s_law_take) .none kV_law_take dc_law_take pm_law_take an_law_take cd_law_take ct_law_take), sl_law_take⟩)
    (c_law_take : PySem.W.codeIn K cd_law_take "_law_take" = true)
    (k_law_take : PySem.W.keepIn K (.ref f_law_take) = true)
    (a_law_pick : PySem.W.nsIn K mainGlobals "_law_pick" = some (some (.ref f_law_pick)))
    (l_law_pick : K.lookup f_law_pick = some ⟨oc_law_pick, od_law_pick, .func (PySem.W.fnOf "_law_pick" "_law_pick" (defArgs s_law_pick) (defBody s_law_pick) (defScope s_law_pick) .none kV_law_pick dc_law_pick pm_law_pick an_law_pick cd_law_pick ct_law_pick), sl_law_pick⟩)
    (c_law_pick : PySem.W.codeIn K cd_law_pick "_law_pick" = true)
    (k_law_pick : PySem.W.keepIn K (.ref f_law_pick) = true)
    (a_law_odd : PySem.W.nsIn K mainGlobals "_law_odd" = some (some (.ref f_law_odd)))
    (l_law_odd : K.lookup f_law_odd = some ⟨oc_law_odd, od_law_odd, .func (PySem.W.fnOf "_law_odd" "_law_odd" (defArgs s_law_odd) (defBody s_law_odd) (defScope s_law_odd) .none kV_law_odd dc_law_odd pm_law_odd an_law_odd cd_law_odd ct_law_odd), sl_law_odd⟩)
    (c_law_odd : PySem.W.codeIn K cd_law_odd "_law_odd" = true)
    (k_law_odd : PySem.W.keepIn K (.ref f_law_odd) = true)
    (a_law_choices : PySem.W.nsIn K mainGlobals "_law_choices" = some (some (.ref f_law_choices)))
    (l_law_choices : K.lookup f_law_choices = some ⟨oc_law_choices, od_law_choices, .func (PySem.W.fnOf "_law_choices" "_law_choices" (defArgs s_law_choices) (defBody s_law_choices) (defScope s_law_choices) .none kV_law_choices dc_law_choices pm_law_choices an_law_choices cd_law_choices ct_law_choices), sl_law_choices⟩)
    (c_law_choices : PySem.W.codeIn K cd_law_choices "_law_choices" = true)
    (k_law_choices : PySem.W.keepIn K (.ref f_law_choices) = true)
    (a_law_is_choice : PySem.W.nsIn K mainGlobals "_law_is_choice" = some (some (.ref f_law_is_choice)))
    (l_law_is_choice : K.lookup f_law_is_choice = some ⟨oc_law_is_choice, od_law_is_choice, .func (PySem.W.fnOf "_law_is_choice" "_law_is_choice" (defArgs s_law_is_choice) (defBody s_law_is_choice) (defScope s_law_is_choice) .none kV_law_is_choice dc_law_is_choice pm_law_is_choice an_law_is_choice cd_law_is_choice ct_law_is_choice), sl_law_is_choice⟩)
    (c_law_is_choice : PySem.W.codeIn K cd_law_is_choice "_law_is_choice" = true)
    (k_law_is_choice : PySem.W.keepIn K (.ref f_law_is_choice) = true)
    (a_law_are_strings : PySem.W.nsIn K mainGlobals "_law_are_strings" = some (some (.ref f_law_are_strings)))
    (l_law_are_strings : K.lookup f_law_are_strings = some ⟨oc_law_are_strings, od_law_are_strings, .func (PySem.W.fnOf "_law_are_strings" "_law_are_strings" (defArgs s_law_are_strings) (defBody s_law_are_strings) (defScope s_law_are_strings) .none kV_law_are_strings dc_law_are_strings pm_law_are_strings an_law_are_strings cd_law_are_strings ct_law_are_strings), sl_law_are_strings⟩)
    (c_law_are_strings : PySem.W.codeIn K cd_law_are_strings "_law_are_strings" = true)
    (k_law_are_strings : PySem.W.keepIn K (.ref f_law_are_strings) = true)
    (a_law_are_choices : PySem.W.nsIn K mainGlobals "_law_are_choices" = some (some (.ref f_law_are_choices)))
    (l_law_are_choices : K.lookup f_law_are_choices = some ⟨oc_law_are_choices, od_law_are_choices, .func (PySem.W.fnOf "_law_are_choices" "_law_are_choices" (defArgs s_law_are_choices) (defBody s_law_are_choices) (defScope s_law_are_choices) .none kV_law_are_choices dc_law_are_choices pm_law_are_choices an_law_are_choices cd_law_are_choices ct_law_are_choices), sl_law_are_choices⟩)
    (c_law_are_choices : PySem.W.codeIn K cd_law_are_choices "_law_are_choices" = true)
    (k_law_are_choices : PySem.W.keepIn K (.ref f_law_are_choices) = true)
    (a_law_is_row : PySem.W.nsIn K mainGlobals "_law_is_row" = some (some (.ref f_law_is_row)))
    (l_law_is_row : K.lookup f_law_is_row = some ⟨oc_law_is_row, od_law_is_row, .func (PySem.W.fnOf "_law_is_row" "_law_is_row" (defArgs s_law_is_row) (defBody s_law_is_row) (defScope s_law_is_row) .none kV_law_is_row dc_law_is_row pm_law_is_row an_law_is_row cd_law_is_row ct_law_is_row), sl_law_is_row⟩)
    (c_law_is_row : PySem.W.codeIn K cd_law_is_row "_law_is_row" = true)
    (k_law_is_row : PySem.W.keepIn K (.ref f_law_is_row) = true)
    (a_law_are_parts : PySem.W.nsIn K mainGlobals "_law_are_parts" = some (some (.ref f_law_are_parts)))
    (l_law_are_parts : K.lookup f_law_are_parts = some ⟨oc_law_are_parts, od_law_are_parts, .func (PySem.W.fnOf "_law_are_parts" "_law_are_parts" (defArgs s_law_are_parts) (defBody s_law_are_parts) (defScope s_law_are_parts) .none kV_law_are_parts dc_law_are_parts pm_law_are_parts an_law_are_parts cd_law_are_parts ct_law_are_parts), sl_law_are_parts⟩)
    (c_law_are_parts : PySem.W.codeIn K cd_law_are_parts "_law_are_parts" = true)
    (k_law_are_parts : PySem.W.keepIn K (.ref f_law_are_parts) = true)
    (a_law_spoilt_row : PySem.W.nsIn K mainGlobals "_law_spoilt_row" = some (some (.ref f_law_spoilt_row)))
    (l_law_spoilt_row : K.lookup f_law_spoilt_row = some ⟨oc_law_spoilt_row, od_law_spoilt_row, .func (PySem.W.fnOf "_law_spoilt_row" "_law_spoilt_row" (defArgs s_law_spoilt_row) (defBody s_law_spoilt_row) (defScope s_law_spoilt_row) .none kV_law_spoilt_row dc_law_spoilt_row pm_law_spoilt_row an_law_spoilt_row cd_law_spoilt_row ct_law_spoilt_row), sl_law_spoilt_row⟩)
    (c_law_spoilt_row : PySem.W.codeIn K cd_law_spoilt_row "_law_spoilt_row" = true)
    (k_law_spoilt_row : PySem.W.keepIn K (.ref f_law_spoilt_row) = true)
    (a_law_spoilt : PySem.W.nsIn K mainGlobals "_law_spoilt" = some (some (.ref f_law_spoilt)))
    (l_law_spoilt : K.lookup f_law_spoilt = some ⟨oc_law_spoilt, od_law_spoilt, .func (PySem.W.fnOf "_law_spoilt" "_law_spoilt" (defArgs s_law_spoilt) (defBody s_law_spoilt) (defScope s_law_spoilt) .none kV_law_spoilt dc_law_spoilt pm_law_spoilt an_law_spoilt cd_law_spoilt ct_law_spoilt), sl_law_spoilt⟩)
    (c_law_spoilt : PySem.W.codeIn K cd_law_spoilt "_law_spoilt" = true)
    (k_law_spoilt : PySem.W.keepIn K (.ref f_law_spoilt) = true)
    (a_law : PySem.W.nsIn K mainGlobals "law" = some (some (.ref f_law)))
    (l_law : K.lookup f_law = some ⟨oc_law, od_law, .func (PySem.W.fnOf "law" "law" (defArgs s_law) (defBody s_law) (defScope s_law) .none kV_law dc_law pm_law an_law cd_law ct_law), sl_law⟩)
    (c_law : PySem.W.codeIn K cd_law "law" = true)
    (k_law : PySem.W.keepIn K (.ref f_law) = true)
    (z_isinstance : PySem.W.nsIn K mainGlobals "isinstance" = some none)
    (z_str : PySem.W.nsIn K mainGlobals "str" = some none)
    (z_all : PySem.W.nsIn K mainGlobals "all" = some none)
    (z_len : PySem.W.nsIn K mainGlobals "len" = some none)
    (z_tuple : PySem.W.nsIn K mainGlobals "tuple" = some none)
    (z_int : PySem.W.nsIn K mainGlobals "int" = some none)
    (z_bool : PySem.W.nsIn K mainGlobals "bool" = some none)
    (z_enumerate : PySem.W.nsIn K mainGlobals "enumerate" = some none)
    (z_sum : PySem.W.nsIn K mainGlobals "sum" = some none)
    (z_list : PySem.W.nsIn K mainGlobals "list" = some none)
    (z_range : PySem.W.nsIn K mainGlobals "range" = some none)
    (z_ValueError : PySem.W.nsIn K mainGlobals "ValueError" = some none)
    (a_Route : PySem.W.nsIn K mainGlobals "Route" = some (some (.ref C_Route)))
    (pg_Route : PySem.W.plainGet K C_Route Str.empty = true)
    (hd_Route : PySem.W.hasDictIn K C_Route = true)
    (po_Route : PySem.W.plainOver K C_Route = true)
    (sa_Route : PySem.W.findIn K (.ref C_Route) "__setattr__" = some (some (.builtin "object.__setattr__")))
    (mk_Route : PySem.W.makesIn K C_Route = true)
    (kc_Route : PySem.W.keepIn K (.ref C_Route) = true)
    (sf_Route : PySem.W.selfFirst K C_Route = true)
    (ih_Route : PySem.W.findIn K (.ref C_Route) "__class__" = some (some (.builtin "object.__class__")))
    (im_Route : PySem.W.mroIn K C_Route (.type "object") = some true)
    (ne_Route : PySem.W.findIn K (.ref C_Route) "__ne__" = some (some (.builtin "object.__ne__")))
    (ty_Route : PySem.W.typeIn K (.ref C_Route) = some (.type "type"))
    (in_Route : PySem.W.specialIn K (.builtin "object.__class__") "__get__" = some (some (.builtin "getset_descriptor.__get__")))
    (it_Route : PySem.W.takesIn K (.builtin "object.__class__") = some true)
    (at_Route_start : PySem.W.findIn K (.ref C_Route) "start" = some none)
    (at_Route_arguments : PySem.W.findIn K (.ref C_Route) "arguments" = some none)
    (at_Route_rows : PySem.W.findIn K (.ref C_Route) "rows" = some none)
    (at_Route_legs : PySem.W.findIn K (.ref C_Route) "legs" = some none)
    (at_Route_counts : PySem.W.findIn K (.ref C_Route) "counts" = some none)
    (at_Route_count : PySem.W.findIn K (.ref C_Route) "count" = some none)
    (a_Route_init : PySem.W.findIn K (.ref C_Route) "__init__" = some (some (.ref f_Route_init)))
    (i_Route_init : PySem.W.isFn K (.ref f_Route_init) = true)
    (l_Route_init : K.lookup f_Route_init = some ⟨oc_Route_init, od_Route_init, .func (PySem.W.fnOf "__init__" "Route.__init__" (defArgs s_Route_init) (defBody s_Route_init) (defScope s_Route_init) .none kV_Route_init dc_Route_init pm_Route_init an_Route_init cd_Route_init ct_Route_init), sl_Route_init⟩)
    (c_Route_init : PySem.W.codeIn K cd_Route_init "Route.__init__" = true)
    (k_Route_init : PySem.W.keepIn K (.ref f_Route_init) = true)
    (a_Route_counted : PySem.W.findIn K (.ref C_Route) "counted" = some (some (.ref f_Route_counted)))
    (i_Route_counted : PySem.W.isFn K (.ref f_Route_counted) = true)
    (l_Route_counted : K.lookup f_Route_counted = some ⟨oc_Route_counted, od_Route_counted, .func (PySem.W.fnOf "counted" "Route.counted" (defArgs s_Route_counted) (defBody s_Route_counted) (defScope s_Route_counted) .none kV_Route_counted dc_Route_counted pm_Route_counted an_Route_counted cd_Route_counted ct_Route_counted), sl_Route_counted⟩)
    (c_Route_counted : PySem.W.codeIn K cd_Route_counted "Route.counted" = true)
    (k_Route_counted : PySem.W.keepIn K (.ref f_Route_counted) = true)
    (a_SpareError : PySem.W.nsIn K mainGlobals "SpareError" = some (some (.ref C_SpareError)))
    (ga_SpareError : PySem.W.findIn K (.ref C_SpareError) "__getattribute__" = some (some (.builtin "BaseException.__getattribute__")))
    (gg_SpareError : PySem.W.findIn K (.ref C_SpareError) "__getattr__" = some none)
    (ex_SpareError : PySem.W.subIn K (.ref C_SpareError) (.type "BaseException") = some true)
    (hd_SpareError : PySem.W.hasDictIn K C_SpareError = true)
    (ih_SpareError : PySem.W.findIn K (.ref C_SpareError) "__class__" = some (some (.builtin "object.__class__")))
    (in_SpareError : PySem.W.specialIn K (.builtin "object.__class__") "__get__" = some (some (.builtin "getset_descriptor.__get__")))
    (it_SpareError : PySem.W.takesIn K (.builtin "object.__class__") = some true)
    (im_SpareError : PySem.W.mroIn K C_SpareError (.type "object") = some true)
    (ty_SpareError : PySem.W.typeIn K (.ref C_SpareError) = some (.type "type"))
    (kc_SpareError : PySem.W.keepIn K (.ref C_SpareError) = true)
    (sb_SpareError : PySem.W.subIn K (.ref C_SpareError) (.ref C_SpareError) = some true)
    (a_BadCase : PySem.W.nsIn K mainGlobals "BadCase" = some (some (.ref C_BadCase)))
    (ga_BadCase : PySem.W.findIn K (.ref C_BadCase) "__getattribute__" = some (some (.builtin "BaseException.__getattribute__")))
    (gg_BadCase : PySem.W.findIn K (.ref C_BadCase) "__getattr__" = some none)
    (ex_BadCase : PySem.W.subIn K (.ref C_BadCase) (.type "BaseException") = some true)
    (hd_BadCase : PySem.W.hasDictIn K C_BadCase = true)
    (ih_BadCase : PySem.W.findIn K (.ref C_BadCase) "__class__" = some (some (.builtin "object.__class__")))
    (in_BadCase : PySem.W.specialIn K (.builtin "object.__class__") "__get__" = some (some (.builtin "getset_descriptor.__get__")))
    (it_BadCase : PySem.W.takesIn K (.builtin "object.__class__") = some true)
    (im_BadCase : PySem.W.mroIn K C_BadCase (.type "object") = some true)
    (ty_BadCase : PySem.W.typeIn K (.ref C_BadCase) = some (.type "type"))
    (kc_BadCase : PySem.W.keepIn K (.ref C_BadCase) = true)
    (sb_BadCase : PySem.W.subIn K (.ref C_BadCase) (.ref C_SpareError) = some true)
    (kl_BadCase : PySem.W.clsIn K C_BadCase = some kd_BadCase)
    (kr_BadCase : kd_BadCase.mro = [.ref C_BadCase, .ref C_SpareError, .type "ValueError", .type "Exception", .type "BaseException", .type "object"])
    (xi_BadCase : PySem.W.excIn K C_BadCase [.type "ValueError", .type "Exception", .type "BaseException", .type "object"] "ValueError.__new__" = true)
    (a_BadRoute : PySem.W.nsIn K mainGlobals "BadRoute" = some (some (.ref C_BadRoute)))
    (ga_BadRoute : PySem.W.findIn K (.ref C_BadRoute) "__getattribute__" = some (some (.builtin "BaseException.__getattribute__")))
    (gg_BadRoute : PySem.W.findIn K (.ref C_BadRoute) "__getattr__" = some none)
    (ex_BadRoute : PySem.W.subIn K (.ref C_BadRoute) (.type "BaseException") = some true)
    (hd_BadRoute : PySem.W.hasDictIn K C_BadRoute = true)
    (ih_BadRoute : PySem.W.findIn K (.ref C_BadRoute) "__class__" = some (some (.builtin "object.__class__")))
    (in_BadRoute : PySem.W.specialIn K (.builtin "object.__class__") "__get__" = some (some (.builtin "getset_descriptor.__get__")))
    (it_BadRoute : PySem.W.takesIn K (.builtin "object.__class__") = some true)
    (im_BadRoute : PySem.W.mroIn K C_BadRoute (.type "object") = some true)
    (ty_BadRoute : PySem.W.typeIn K (.ref C_BadRoute) = some (.type "type"))
    (kc_BadRoute : PySem.W.keepIn K (.ref C_BadRoute) = true)
    (sb_BadRoute : PySem.W.subIn K (.ref C_BadRoute) (.ref C_SpareError) = some true)
    (kl_BadRoute : PySem.W.clsIn K C_BadRoute = some kd_BadRoute)
    (kr_BadRoute : kd_BadRoute.mro = [.ref C_BadRoute, .ref C_SpareError, .type "ValueError", .type "Exception", .type "BaseException", .type "object"])
    (xi_BadRoute : PySem.W.excIn K C_BadRoute [.type "ValueError", .type "Exception", .type "BaseException", .type "object"] "ValueError.__new__" = true)
    (dif : [C_SpareError, C_BadCase, C_BadRoute].Nodup)
    (hP : PrOk l.prog) :
    ∃ fd : FuncData, (∀ (s : Shared) (v : Value), BindsTo s fd ⟨[v], []⟩ [("_law_script", v)]) ∧ ∀ base : Heap, K.In base → base.Ns mainGlobals mg → FnOk l.prog w K mg base CX0 8 fa fd ["_law_script"] (spLaw K) := by
  have e3 : fa = f_law := by
    have z := hfa.symm.trans (PySem.W.mg_of X G a_law)
    injection z with z
    injection z
  have T : Nonempty { T : Txt K mg // T.f_law = f_law ∧ T.fd_law = PySem.W.fnOf "law" "law" (defArgs s_law) (defBody s_law) (defScope s_law) .none kV_law dc_law pm_law an_law cd_law ct_law } := ⟨⟨{
    f_is_string := f_is_string, fd_is_string := _, F_is_string := fun_mk (st := s_is_string) l_is_string c_is_string k_is_string, g_is_string := PySem.W.mg_of X G a_is_string,
    b_is_string := (fun_mk (st := s_is_string) l_is_string c_is_string k_is_string).binds (ps := ["value", "most"]) fun _ _ _ _ _ _ us hl => match us, hl with | [_, _], _ => rfl,
    f_is_tuple_of_strings := f_is_tuple_of_strings, fd_is_tuple_of_strings := _, F_is_tuple_of_strings := fun_mk (st := s_is_tuple_of_strings) l_is_tuple_of_strings c_is_tuple_of_strings k_is_tuple_of_strings, g_is_tuple_of_strings := PySem.W.mg_of X G a_is_tuple_of_strings,
    b_is_tuple_of_strings := (fun_mk (st := s_is_tuple_of_strings) l_is_tuple_of_strings c_is_tuple_of_strings k_is_tuple_of_strings).binds (ps := ["value"]) fun _ _ _ _ _ _ us hl => match us, hl with | [_], _ => rfl,
    f_is_choice := f_is_choice, fd_is_choice := _, F_is_choice := fun_mk (st := s_is_choice) l_is_choice c_is_choice k_is_choice, g_is_choice := PySem.W.mg_of X G a_is_choice,
    b_is_choice := (fun_mk (st := s_is_choice) l_is_choice c_is_choice k_is_choice).binds (ps := ["value", "most"]) fun _ _ _ _ _ _ us hl => match us, hl with | [_, _], _ => rfl,
    f_are_choices := f_are_choices, fd_are_choices := _, F_are_choices := fun_mk (st := s_are_choices) l_are_choices c_are_choices k_are_choices, g_are_choices := PySem.W.mg_of X G a_are_choices,
    b_are_choices := (fun_mk (st := s_are_choices) l_are_choices c_are_choices k_are_choices).binds (ps := ["value", "most"]) fun _ _ _ _ _ _ us hl => match us, hl with | [_, _], _ => rfl,
    f_is_row := f_is_row, fd_is_row := _, F_is_row := fun_mk (st := s_is_row) l_is_row c_is_row k_is_row, g_is_row := PySem.W.mg_of X G a_is_row,
    b_is_row := (fun_mk (st := s_is_row) l_is_row c_is_row k_is_row).binds (ps := ["value", "k"]) fun _ _ _ _ _ _ us hl => match us, hl with | [_, _], _ => rfl,
    f_are_parts := f_are_parts, fd_are_parts := _, F_are_parts := fun_mk (st := s_are_parts) l_are_parts c_are_parts k_are_parts, g_are_parts := PySem.W.mg_of X G a_are_parts,
    b_are_parts := (fun_mk (st := s_are_parts) l_are_parts c_are_parts k_are_parts).binds (ps := ["start", "arguments", "rows", "legs"]) fun _ _ _ _ _ _ us hl => match us, hl with | [_, _, _, _], _ => rfl,
    f_law_begun := f_law_begun, fd_law_begun := _, F_law_begun := fun_mk (st := s_law_begun) l_law_begun c_law_begun k_law_begun, g_law_begun := PySem.W.mg_of X G a_law_begun,
    b_law_begun := (fun_mk (st := s_law_begun) l_law_begun c_law_begun k_law_begun).binds (ps := ["_law_script"]) fun _ _ _ _ _ _ us hl => match us, hl with | [_], _ => rfl,
    f_law_mixed := f_law_mixed, fd_law_mixed := _, F_law_mixed := fun_mk (st := s_law_mixed) l_law_mixed c_law_mixed k_law_mixed, g_law_mixed := PySem.W.mg_of X G a_law_mixed,
    b_law_mixed := (fun_mk (st := s_law_mixed) l_law_mixed c_law_mixed k_law_mixed).binds (ps := ["_law_state"]) fun _ _ _ _ _ _ us hl => match us, hl with | [_], _ => rfl,
    f_law_take := f_law_take, fd_law_take := _, F_law_take := fun_mk (st := s_law_take) l_law_take c_law_take k_law_take, g_law_take := PySem.W.mg_of X G a_law_take,
    b_law_take := (fun_mk (st := s_law_take) l_law_take c_law_take k_law_take).binds (ps := ["_law_state", "_law_size"]) fun _ _ _ _ _ _ us hl => match us, hl with | [_, _], _ => rfl,
    f_law_pick := f_law_pick, fd_law_pick := _, F_law_pick := fun_mk (st := s_law_pick) l_law_pick c_law_pick k_law_pick, g_law_pick := PySem.W.mg_of X G a_law_pick,
    b_law_pick := (fun_mk (st := s_law_pick) l_law_pick c_law_pick k_law_pick).binds (ps := ["_law_state", "_law_some"]) fun _ _ _ _ _ _ us hl => match us, hl with | [_, _], _ => rfl,
    f_law_odd := f_law_odd, fd_law_odd := _, F_law_odd := fun_mk (st := s_law_odd) l_law_odd c_law_odd k_law_odd, g_law_odd := PySem.W.mg_of X G a_law_odd,
    b_law_odd := (fun_mk (st := s_law_odd) l_law_odd c_law_odd k_law_odd).binds (ps := ["_law_state", "_law_k"]) fun _ _ _ _ _ _ us hl => match us, hl with | [_, _], _ => rfl,
    f_law_choices := f_law_choices, fd_law_choices := _, F_law_choices := fun_mk (st := s_law_choices) l_law_choices c_law_choices k_law_choices, g_law_choices := PySem.W.mg_of X G a_law_choices,
    b_law_choices := (fun_mk (st := s_law_choices) l_law_choices c_law_choices k_law_choices).binds (ps := ["_law_state", "_law_k"]) fun _ _ _ _ _ _ us hl => match us, hl with | [_, _], _ => rfl,
    f_law_is_choice := f_law_is_choice, fd_law_is_choice := _, F_law_is_choice := fun_mk (st := s_law_is_choice) l_law_is_choice c_law_is_choice k_law_is_choice, g_law_is_choice := PySem.W.mg_of X G a_law_is_choice,
    b_law_is_choice := (fun_mk (st := s_law_is_choice) l_law_is_choice c_law_is_choice k_law_is_choice).binds (ps := ["_law_value", "_law_k"]) fun _ _ _ _ _ _ us hl => match us, hl with | [_, _], _ => rfl,
    f_law_are_strings := f_law_are_strings, fd_law_are_strings := _, F_law_are_strings := fun_mk (st := s_law_are_strings) l_law_are_strings c_law_are_strings k_law_are_strings, g_law_are_strings := PySem.W.mg_of X G a_law_are_strings,
    b_law_are_strings := (fun_mk (st := s_law_are_strings) l_law_are_strings c_law_are_strings k_law_are_strings).binds (ps := ["_law_value"]) fun _ _ _ _ _ _ us hl => match us, hl with | [_], _ => rfl,
    f_law_are_choices := f_law_are_choices, fd_law_are_choices := _, F_law_are_choices := fun_mk (st := s_law_are_choices) l_law_are_choices c_law_are_choices k_law_are_choices, g_law_are_choices := PySem.W.mg_of X G a_law_are_choices,
    b_law_are_choices := (fun_mk (st := s_law_are_choices) l_law_are_choices c_law_are_choices k_law_are_choices).binds (ps := ["_law_value", "_law_k"]) fun _ _ _ _ _ _ us hl => match us, hl with | [_, _], _ => rfl,
    f_law_is_row := f_law_is_row, fd_law_is_row := _, F_law_is_row := fun_mk (st := s_law_is_row) l_law_is_row c_law_is_row k_law_is_row, g_law_is_row := PySem.W.mg_of X G a_law_is_row,
    b_law_is_row := (fun_mk (st := s_law_is_row) l_law_is_row c_law_is_row k_law_is_row).binds (ps := ["_law_value", "_law_k"]) fun _ _ _ _ _ _ us hl => match us, hl with | [_, _], _ => rfl,
    f_law_are_parts := f_law_are_parts, fd_law_are_parts := _, F_law_are_parts := fun_mk (st := s_law_are_parts) l_law_are_parts c_law_are_parts k_law_are_parts, g_law_are_parts := PySem.W.mg_of X G a_law_are_parts,
    b_law_are_parts := (fun_mk (st := s_law_are_parts) l_law_are_parts c_law_are_parts k_law_are_parts).binds (ps := ["_law_parts"]) fun _ _ _ _ _ _ us hl => match us, hl with | [_], _ => rfl,
    f_law_spoilt_row := f_law_spoilt_row, fd_law_spoilt_row := _, F_law_spoilt_row := fun_mk (st := s_law_spoilt_row) l_law_spoilt_row c_law_spoilt_row k_law_spoilt_row, g_law_spoilt_row := PySem.W.mg_of X G a_law_spoilt_row,
    b_law_spoilt_row := (fun_mk (st := s_law_spoilt_row) l_law_spoilt_row c_law_spoilt_row k_law_spoilt_row).binds (ps := ["_law_state", "_law_row", "_law_k"]) fun _ _ _ _ _ _ us hl => match us, hl with | [_, _, _], _ => rfl,
    f_law_spoilt := f_law_spoilt, fd_law_spoilt := _, F_law_spoilt := fun_mk (st := s_law_spoilt) l_law_spoilt c_law_spoilt k_law_spoilt, g_law_spoilt := PySem.W.mg_of X G a_law_spoilt,
    b_law_spoilt := (fun_mk (st := s_law_spoilt) l_law_spoilt c_law_spoilt k_law_spoilt).binds (ps := ["_law_state", "_law_parts"]) fun _ _ _ _ _ _ us hl => match us, hl with | [_, _], _ => rfl,
    f_law := f_law, fd_law := _, F_law := fun_mk (st := s_law) l_law c_law k_law, g_law := PySem.W.mg_of X G a_law,
    b_law := (fun_mk (st := s_law) l_law c_law k_law).binds (ps := ["_law_script"]) fun _ _ _ _ _ _ us hl => match us, hl with | [_], _ => rfl,
    z_isinstance := PySem.W.mg_none_of X G z_isinstance,
    z_str := PySem.W.mg_none_of X G z_str,
    z_all := PySem.W.mg_none_of X G z_all,
    z_len := PySem.W.mg_none_of X G z_len,
    z_tuple := PySem.W.mg_none_of X G z_tuple,
    z_int := PySem.W.mg_none_of X G z_int,
    z_bool := PySem.W.mg_none_of X G z_bool,
    z_enumerate := PySem.W.mg_none_of X G z_enumerate,
    z_sum := PySem.W.mg_none_of X G z_sum,
    z_list := PySem.W.mg_none_of X G z_list,
    z_range := PySem.W.mg_none_of X G z_range,
    z_ValueError := PySem.W.mg_none_of X G z_ValueError,
    C_Route := C_Route, gC_Route := PySem.W.mg_of X G a_Route, cl_Route := ⟨pg_Route, hd_Route, po_Route, sa_Route⟩, sf_Route := sf_Route, ih_Route := ih_Route, in_Route := in_Route, it_Route := it_Route, im_Route := im_Route, ne_Route := ne_Route, ty_Route := ty_Route,
    at_Route_start := at_Route_start,
    at_Route_arguments := at_Route_arguments,
    at_Route_rows := at_Route_rows,
    at_Route_legs := at_Route_legs,
    at_Route_counts := at_Route_counts,
    at_Route_count := at_Route_count,
    f_Route_init := f_Route_init, fd_Route_init := _, F_Route_init := fun_mk (st := s_Route_init) l_Route_init c_Route_init k_Route_init,
    m_Route_init := ⟨a_Route_init, i_Route_init, k_Route_init⟩,
    mk_Route := ⟨mk_Route, a_Route_init, i_Route_init, kc_Route⟩,
    b_Route_init := (fun_mk (st := s_Route_init) l_Route_init c_Route_init k_Route_init).binds (ps := ["self", "start", "arguments", "rows", "legs"]) fun _ _ _ _ _ _ us hl => match us, hl with | [_, _, _, _, _], _ => rfl,
    f_Route_counted := f_Route_counted, fd_Route_counted := _, F_Route_counted := fun_mk (st := s_Route_counted) l_Route_counted c_Route_counted k_Route_counted,
    m_Route_counted := ⟨a_Route_counted, i_Route_counted, k_Route_counted⟩,
    b_Route_counted := (fun_mk (st := s_Route_counted) l_Route_counted c_Route_counted k_Route_counted).binds (ps := ["self", "choices"]) fun _ _ _ _ _ _ us hl => match us, hl with | [_, _], _ => rfl,
    C_SpareError := C_SpareError, gC_SpareError := PySem.W.mg_of X G a_SpareError, x_SpareError := ⟨ga_SpareError, gg_SpareError, ex_SpareError, hd_SpareError, ih_SpareError, in_SpareError, it_SpareError, im_SpareError⟩, xf_SpareError := ⟨ga_SpareError, gg_SpareError, ex_SpareError, hd_SpareError⟩, kC_SpareError := kc_SpareError, ty_SpareError := ty_SpareError,
    m_SpareError := PySem.W.exm_ref ex_SpareError hd_SpareError ty_SpareError sb_SpareError,
    mr_BadCase := ⟨kd_BadCase, kl_BadCase, kr_BadCase⟩,
    C_BadCase := C_BadCase, gC_BadCase := PySem.W.mg_of X G a_BadCase, x_BadCase := ⟨ga_BadCase, gg_BadCase, ex_BadCase, hd_BadCase, ih_BadCase, in_BadCase, it_BadCase, im_BadCase⟩, xf_BadCase := ⟨ga_BadCase, gg_BadCase, ex_BadCase, hd_BadCase⟩, kC_BadCase := kc_BadCase, ty_BadCase := ty_BadCase,
    m_BadCase := PySem.W.exm_ref ex_SpareError hd_SpareError ty_SpareError sb_BadCase,
    xi_BadCase := xi_BadCase,
    mr_BadRoute := ⟨kd_BadRoute, kl_BadRoute, kr_BadRoute⟩,
    C_BadRoute := C_BadRoute, gC_BadRoute := PySem.W.mg_of X G a_BadRoute, x_BadRoute := ⟨ga_BadRoute, gg_BadRoute, ex_BadRoute, hd_BadRoute, ih_BadRoute, in_BadRoute, it_BadRoute, im_BadRoute⟩, xf_BadRoute := ⟨ga_BadRoute, gg_BadRoute, ex_BadRoute, hd_BadRoute⟩, kC_BadRoute := kc_BadRoute, ty_BadRoute := ty_BadRoute,
    m_BadRoute := PySem.W.exm_ref ex_SpareError hd_SpareError ty_SpareError sb_BadRoute,
    xi_BadRoute := xi_BadRoute,
    dif := dif }, rfl, rfl⟩⟩
  obtain ⟨T, e1, e2⟩ := T
  refine ⟨PySem.W.fnOf "law" "law" (defArgs s_law) (defBody s_law) (defScope s_law) .none kV_law dc_law pm_law an_law cd_law ct_law, fun s v => .of_eq rfl, fun base _ _ => ?_⟩
  rw [e3, ← e1, ← e2]
  exact ok_law T hP
theorem walk {l : PySem.W.OpenLaw} {q : Program} {loose : List Str} {XP : (Str → Option Value) → Heap → Prop} {YP : World → Heap → Prop} {d : DefRec} {K : Params → PySem.W.Frag} (hn : l.most = some 63) (hdf : d.params.defaults = [])
    (hY : ∀ (w : World) (h : Heap), YP w h → (K w.params).In h)
    (F : ∀ (w : World) (mg : Str → Option Value) (fa : Addr) (h : Heap), (K w.params).In h → h.Ns mainGlobals mg → mg d.name = some (.ref fa) →
      ∃ fd : FuncData, (∀ (s : Shared) (u : Value), BindsTo s fd ⟨[u], []⟩ [("_law_script", u)]) ∧ ∀ base : Heap, (K w.params).In base → base.Ns mainGlobals mg → FnOk l.prog w (K w.params) mg base CX0 8 fa fd ["_law_script"] (spLaw (K w.params))) :
    PySem.W.WalkO q loose XP YP l.row.toRowW d [] (fun f vs => PySem.call f vs) :=
  L2.walk_of (n := 63) (k := 8) (x := "_law_script") (CX := fun _ => CX0) (sp := fun w => spLaw (K w.params)) hn (by decide) hdf ⟨rfl, by decide, by decide⟩ hY F
    (fun _ _ a ns hl _ hS => ⟨a, ns, rfl, hS, hl, fun _ => rfl⟩) fun _ _ _ _ _ z => z
end Sn
open PySem PySem.W PyProof.Rows
set_option maxRecDepth 100000 in
set_option maxHeartbeats 0 in
theorem PySem.Challenge.cw_sparenames_k42_routes_refused_holds : PySem.Challenge.rw_sparenames_k42_routes_refused.Holds := by
  w_on; o_law; k_head; (case hw => w_witness2)
  k_fill
  refine Sn.walk (l := PySem.Challenge.rw_sparenames_k42_routes_refused) rfl rfl (fun w h Y => PySem.W.kIn_of Y) ?F
  case F =>
    intro w mg fa h KX G hmg
    refine' Sn.all_mk KX G hmg ?a_is_string ?l_is_string ?c_is_string ?k_is_string ?a_is_tuple_of_strings ?l_is_tuple_of_strings ?c_is_tuple_of_strings ?k_is_tuple_of_strings ?a_is_choice ?l_is_choice ?c_is_choice ?k_is_choice ?a_are_choices ?l_are_choices ?c_are_choices ?k_are_choices ?a_is_row ?l_is_row ?c_is_row ?k_is_row ?a_are_parts ?l_are_parts ?c_are_parts ?k_are_parts ?a_law_begun ?l_law_begun ?c_law_begun ?k_law_begun ?a_law_mixed ?l_law_mixed ?c_law_mixed ?k_law_mixed ?a_law_take ?l_law_take ?c_law_take ?k_law_take ?a_law_pick ?l_law_pick ?c_law_pick ?k_law_pick ?a_law_odd ?l_law_odd ?c_law_odd ?k_law_odd ?a_law_choices ?l_law_choices ?c_law_choices ?k_law_choices ?a_law_is_choice ?l_law_is_choice ?c_law_is_choice ?k_law_is_choice ?a_law_are_strings ?l_law_are_strings ?c_law_are_strings ?k_law_are_strings ?a_law_are_choices ?l_law_are_choices ?c_law_are_choices ?k_law_are_choices ?a_law_is_row ?l_law_is_row ?c_law_is_row ?k_law_is_row ?a_law_are_parts ?l_law_are_parts ?c_law_are_parts ?k_law_are_parts ?a_law_spoilt_row ?l_law_spoilt_row ?c_law_spoilt_row ?k_law_spoilt_row ?a_law_spoilt ?l_law_spoilt ?c_law_spoilt ?k_law_spoilt ?a_law ?l_law ?c_law ?k_law ?z_isinstance ?z_str ?z_all ?z_len ?z_tuple ?z_int ?z_bool ?z_enumerate ?z_sum ?z_list ?z_range ?z_ValueError ?a_Route ?pg_Route ?hd_Route ?po_Route ?sa_Route ?mk_Route ?kc_Route ?sf_Route ?ih_Route ?im_Route ?ne_Route ?ty_Route ?in_Route ?it_Route ?at_Route_start ?at_Route_arguments ?at_Route_rows ?at_Route_legs ?at_Route_counts ?at_Route_count ?a_Route_init ?i_Route_init ?l_Route_init ?c_Route_init ?k_Route_init ?a_Route_counted ?i_Route_counted ?l_Route_counted ?c_Route_counted ?k_Route_counted ?a_SpareError ?ga_SpareError ?gg_SpareError ?ex_SpareError ?hd_SpareError ?ih_SpareError ?in_SpareError ?it_SpareError ?im_SpareError ?ty_SpareError ?kc_SpareError ?sb_SpareError ?a_BadCase ?ga_BadCase ?gg_BadCase ?ex_BadCase ?hd_BadCase ?ih_BadCase ?in_BadCase ?it_BadCase ?im_BadCase ?ty_BadCase ?kc_BadCase ?sb_BadCase ?kl_BadCase ?kr_BadCase ?xi_BadCase ?a_BadRoute ?ga_BadRoute ?gg_BadRoute ?ex_BadRoute ?hd_BadRoute ?ih_BadRoute ?in_BadRoute ?it_BadRoute ?im_BadRoute ?ty_BadRoute ?kc_BadRoute ?sb_BadRoute ?kl_BadRoute ?kr_BadRoute ?xi_BadRoute ?dif ?hP
    (case a_is_string => k_is)
    (case l_is_string => k_is)
    (case c_is_string => k_is)
    (case k_is_string => k_is)
    (case a_is_tuple_of_strings => k_is)
    (case l_is_tuple_of_strings => k_is)
    (case c_is_tuple_of_strings => k_is)
    (case k_is_tuple_of_strings => k_is)
    (case a_is_choice => k_is)
    (case l_is_choice => k_is)
    (case c_is_choice => k_is)
    (case k_is_choice => k_is)
    (case a_are_choices => k_is)
    (case l_are_choices => k_is)
    (case c_are_choices => k_is)
    (case k_are_choices => k_is)
    (case a_is_row => k_is)
    (case l_is_row => k_is)
    (case c_is_row => k_is)
    (case k_is_row => k_is)
    (case a_are_parts => k_is)
    (case l_are_parts => k_is)
    (case c_are_parts => k_is)
    (case k_are_parts => k_is)
    (case a_law_begun => k_is)
    (case l_law_begun => k_is)
    (case c_law_begun => k_is)
    (case k_law_begun => k_is)
    (case a_law_mixed => k_is)
    (case l_law_mixed => k_is)
    (case c_law_mixed => k_is)
    (case k_law_mixed => k_is)
    (case a_law_take => k_is)
    (case l_law_take => k_is)
    (case c_law_take => k_is)
    (case k_law_take => k_is)
    (case a_law_pick => k_is)
    (case l_law_pick => k_is)
    (case c_law_pick => k_is)
    (case k_law_pick => k_is)
    (case a_law_odd => k_is)
    (case l_law_odd => k_is)
    (case c_law_odd => k_is)
    (case k_law_odd => k_is)
    (case a_law_choices => k_is)
    (case l_law_choices => k_is)
    (case c_law_choices => k_is)
    (case k_law_choices => k_is)
    (case a_law_is_choice => k_is)
    (case l_law_is_choice => k_is)
    (case c_law_is_choice => k_is)
    (case k_law_is_choice => k_is)
    (case a_law_are_strings => k_is)
    (case l_law_are_strings => k_is)
    (case c_law_are_strings => k_is)
    (case k_law_are_strings => k_is)
    (case a_law_are_choices => k_is)
    (case l_law_are_choices => k_is)
    (case c_law_are_choices => k_is)
    (case k_law_are_choices => k_is)
    (case a_law_is_row => k_is)
    (case l_law_is_row => k_is)
    (case c_law_is_row => k_is)
    (case k_law_is_row => k_is)
    (case a_law_are_parts => k_is)
    (case l_law_are_parts => k_is)
    (case c_law_are_parts => k_is)
    (case k_law_are_parts => k_is)
    (case a_law_spoilt_row => k_is)
    (case l_law_spoilt_row => k_is)
    (case c_law_spoilt_row => k_is)
    (case k_law_spoilt_row => k_is)
    (case a_law_spoilt => k_is)
    (case l_law_spoilt => k_is)
    (case c_law_spoilt => k_is)
    (case k_law_spoilt => k_is)
    (case a_law => k_is)
    (case l_law => k_is)
    (case c_law => k_is)
    (case k_law => k_is)
    (case z_isinstance => k_is)
    (case z_str => k_is)
    (case z_all => k_is)
    (case z_len => k_is)
    (case z_tuple => k_is)
    (case z_int => k_is)
    (case z_bool => k_is)
    (case z_enumerate => k_is)
    (case z_sum => k_is)
    (case z_list => k_is)
    (case z_range => k_is)
    (case z_ValueError => k_is)
    (case a_Route => k_is)
    (case pg_Route => k_is)
    (case hd_Route => k_is)
    (case po_Route => k_is)
    (case sa_Route => k_is)
    (case mk_Route => k_is)
    (case kc_Route => k_is)
    (case sf_Route => k_is)
    (case ih_Route => k_is)
    (case im_Route => k_is)
    (case ne_Route => k_is)
    (case ty_Route => k_is)
    (case in_Route => k_is)
    (case it_Route => k_is)
    (case at_Route_start => k_is)
    (case at_Route_arguments => k_is)
    (case at_Route_rows => k_is)
    (case at_Route_legs => k_is)
    (case at_Route_counts => k_is)
    (case at_Route_count => k_is)
    (case a_Route_init => k_is)
    (case i_Route_init => k_is)
    (case l_Route_init => k_is)
    (case c_Route_init => k_is)
    (case k_Route_init => k_is)
    (case a_Route_counted => k_is)
    (case i_Route_counted => k_is)
    (case l_Route_counted => k_is)
    (case c_Route_counted => k_is)
    (case k_Route_counted => k_is)
    (case a_SpareError => k_is)
    (case ga_SpareError => k_is)
    (case gg_SpareError => k_is)
    (case ex_SpareError => k_is)
    (case hd_SpareError => k_is)
    (case ih_SpareError => k_is)
    (case in_SpareError => k_is)
    (case it_SpareError => k_is)
    (case im_SpareError => k_is)
    (case ty_SpareError => k_is)
    (case kc_SpareError => k_is)
    (case sb_SpareError => first | rfl | k_is)
    (case a_BadCase => k_is)
    (case ga_BadCase => k_is)
    (case gg_BadCase => k_is)
    (case ex_BadCase => k_is)
    (case hd_BadCase => k_is)
    (case ih_BadCase => k_is)
    (case in_BadCase => k_is)
    (case it_BadCase => k_is)
    (case im_BadCase => k_is)
    (case ty_BadCase => k_is)
    (case kc_BadCase => k_is)
    (case sb_BadCase => first | rfl | k_is)
    (case kl_BadCase => k_is)
    (case kr_BadCase => rfl)
    (case xi_BadCase => k_exc)
    (case a_BadRoute => k_is)
    (case ga_BadRoute => k_is)
    (case gg_BadRoute => k_is)
    (case ex_BadRoute => k_is)
    (case hd_BadRoute => k_is)
    (case ih_BadRoute => k_is)
    (case in_BadRoute => k_is)
    (case it_BadRoute => k_is)
    (case im_BadRoute => k_is)
    (case ty_BadRoute => k_is)
    (case kc_BadRoute => k_is)
    (case sb_BadRoute => first | rfl | k_is)
    (case kl_BadRoute => k_is)
    (case kr_BadRoute => rfl)
    (case xi_BadRoute => k_exc)
    (case dif => decide)
    (case hP => exact ⟨rfl, by decide +kernel⟩)
#print axioms PySem.Challenge.cw_sparenames_k42_routes_refused_holds

