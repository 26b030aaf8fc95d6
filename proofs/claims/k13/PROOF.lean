import PyProof.Rows.All
import Wide.All
import OpenK.AllK
import Wide.FinOn
import HandS.ForMost
import HandS.IsInst
import HandS.Flow
import HandS.Walk
import HandS.Codes
import PyProof.TupleOfStr
import PyProof.ReprRoads
import HandS.OwnEq
import HandS.DictComp
import HandS.Star
import HandS.Conv
import HandS.ClsMeth
import KE.GoesMore
import KE.KSuperObj
import HandS.Deep
import HandS.ExcInit
import HandS.ExcValue
import HandS.ExcField
import HandS.ExcOwn
import HandS.WordsExc
import KE.KExcSuper
import KE.KExcIs
import HandS.ExcIs
import HandS.TupAny
import PyProof.NeKinds
import HandS.More
import HandS.StrMore
import HandS.Style
import PyProof.Rows.RegFStrParts
import PySem.Challenge.RW_sparenames_k13_lines_of_reserved_words
set_option Elab.async false
set_option linter.all false
set_option maxRecDepth 100000
set_option maxHeartbeats 4000000
/-! ## A small layer of our own over HandS: defs whose callers have no repr under way (guards), repr of data, tuple(text) -/
namespace Sn
open PySem PySem.Spec PyProof.Rows L2

/-! ### a def's promise where no repr is under way -/
section
variable {P : Program} {w : World} {K : PySem.W.Frag} {mg : Str → Option Value} {base : Heap} {CX : CXT}
structure FnG (P : Program) (w : World) (K : PySem.W.Frag) (mg : Str → Option Value)
    (base : Heap) (CX : CXT) (k : Nat) (f : Addr) (fd : FuncData) (ps : List Str) (sp : Sp) : Prop where
  leng : ∀ xs H Q E, sp xs H Q E → xs.length = ps.length
  runs : ∀ (A : Around) (fr : List Env) (s : Shared) (H : Hp) (ar : Args) (us : List Value) (xs : List V) (Q : VK) (E : XK),
    A.guards = some [] → Room k A → Env0 P w K mg base A fr s H → BindsTo s fd ar (ps.zip us) → Vals xs us → sp xs H Q E →
    codeAny (model P w) A (.call (.ref f) ar) (CR CX fr P w H s Q E) s
theorem FnG.of {k : Nat} {f : Addr} {fd : FuncData} {ps : List Str} {sp : Sp}
    (F : FnOk P w K mg base CX k f fd ps sp) : FnG P w K mg base CX k f fd ps sp :=
  ⟨F.len, fun A fr s H ar us xs Q E _ a b c d e => F.run A fr s H ar us xs Q E a b c d e⟩
theorem fnG_of {k : Nat} {f : Addr} {nm ql : Str} {pa : Arguments} {bd : List Stmt} {sc : Scope}
    {dV kV dc pm cd ct oc : Value} {an od : Option Addr} {sl : Array (Option Value)} {N ps : List Str} {sp : Sp}
    (lk : K.lookup f = some ⟨oc, od, .func (PySem.W.fnOf nm ql pa bd sc dV kV dc pm an cd ct), sl⟩)
    (hc : PySem.W.codeIn K cd ql = true) (S : FnScope N ps sc) (leng : ∀ xs H Q E, sp xs H Q E → xs.length = ps.length)
    (hb : ∀ (A : Around) (fr : List Env) (s : Shared) (H : Hp) (xs : List V) (Q : VK) (E : XK),
      (A.deeper (envOfC ql sc s.heap.objs.size f cd)).guards = some [] → Room k (A.deeper (envOfC ql sc s.heap.objs.size f cd)) →
      sp xs H Q E → ∃ t, PSs (cxOf CX P w K mg base N ql sc f cd A fr s H E) bd t ∧
        t { nx := fun _ H' => Q .non H', rt := Q } (start N xs) H) :
    FnG P w K mg base CX (k + 1) f (PySem.W.fnOf nm ql pa bd sc dV kV dc pm an cd ct) ps sp := by
  refine ⟨leng, ?_⟩
  intro A fr s H ar us xs Q E hg hr e0 hbi rv hsp
  have hlen := leng _ _ _ _ hsp
  have kin : K.In s.heap := e0.mod.kin.keeps fun b o q => (e0.bs b o q).1
  have nol : s.heap.NoLimit := e0.mod.nolimit.keeps fun b o q => (e0.bs b o q).1
  have knd : ∀ y ∈ ps.zip us, sc.names.lookup y.1 = some .local ∨ (sc.names.lookup y.1 = some .cell ∧
      ((cellsFrom (s.heap.objs.size + 1) sc.names []).lookup y.1).isSome = true) := by
    rintro ⟨n, v⟩ hy
    exact (S.par n (List.of_mem_zip hy).1).elim .inl fun q => .inr ⟨q, PySem.W.cellsFrom_some _ _ _ (.inl q)⟩
  refine codeAny_call_function hr.depth (kin _ _ lk) rfl S.co S.gen rfl (PySem.W.codeRec_of kin hc) ?_
  refine hbi _ _ _ _ ?_
  refine wpAny_newFunctionEnv_cells S.kind knd ?_
  rintro env rfl s1 x
  refine ⟨nol.keeps x.toInCall.keep, codeAny_func ?_⟩
  obtain ⟨t, ht, hq⟩ := hb A fr s H xs Q E hg (hr.deeper _) hsp
  have J : Inv (cxOf CX P w K mg base N ql sc f cd A fr s H E) [] (start N xs) H s1 :=
    inv_start S hr.hd e0 hlen rv x
  refine wpAny_mono (ht.run [] s1 (start N xs) H _ J hq) ?_ fun e s' z => z
  intro fl s' hs
  match fl, hs with
  | .ret u, ⟨v, σ', H', J', rr, qq⟩ => exact ⟨v, H', J'.os, J'.bare, J'.base, J'.hok, rr, qq⟩
  | .next, ⟨σ', H', J', qq⟩ => exact ⟨V.non, H', J'.os, J'.bare, J'.base, J'.hok, rfl, qq⟩
  | .brk, ⟨_, _, _, qq⟩ => exact False.elim qq
  | .cont, ⟨_, _, _, qq⟩ => exact False.elim qq
theorem okG {x ql : Str} {st : Stmt} {f : Addr} {fd : FuncData} {N ps : List Str} {k : Nat} {sp : Sp}
    (F : Fun K x ql st f fd) (S : FnScope N ps (defScope st)) (leng : ∀ xs H Q E, sp xs H Q E → xs.length = ps.length)
    (hb : ∀ (cd : Value) (A : Around) (fr : List Env) (s : Shared) (H : Hp) (xs : List V) (Q : VK) (E : XK),
      (A.deeper (envOfC ql (defScope st) s.heap.objs.size f cd)).guards = some [] →
      Room k (A.deeper (envOfC ql (defScope st) s.heap.objs.size f cd)) → sp xs H Q E →
      ∃ t, PSs (cxOf CX0 P w K mg base N ql (defScope st) f cd A fr s H E).nox (defBody st) t ∧
        t { nx := fun _ H' => Q .non H', rt := Q } (start N xs) H) :
    FnG P w K mg base CX0 (k + 1) f fd ps sp := by
  obtain ⟨oc, od, kV, dc, pm, an, cd, ct, sl, rfl, lk, hcd⟩ := F.ex
  refine fnG_of lk hcd S leng fun A fr s H xs Q E hg hr h => ?_
  obtain ⟨t, a, b⟩ := hb cd A fr s H xs Q E hg hr h
  exact ⟨t, a.nox, b⟩
end

section
variable {X : Cx} {CX : CXT} {k : Nat} {f : Addr} {fd : FuncData} {ps : List Str} {sp : Sp} {dvs : List V} {ds : List Value}
  {E : XK} {x : Str} {p pos : Pos} {e : Expr} {es : List Expr} {t : TA}
theorem runG {pins : List (Addr × Obj)} {σ : L2.St} {H : Hp} {s : Shared} {Q : VK} {us : List Value} {xs : List V}
    (F : FnG X.prog X.w X.K X.mg X.base CX k f fd ps sp) (hgu : X.A.guards = some []) (hr : Room k X.A)
    (hb : Binds X.K fd ps ds) (hd : Vals dvs ds) (hx : Passes CX X E) (I : Inv X pins σ H s) (r : Vals xs us)
    (h : sp (xs ++ dvs) H Q E) : wpAny (model X.prog X.w) X.A (call (.ref f) us) (EP X pins σ Q) X.xe s := by
  have r2 : Vals (xs ++ dvs) (us ++ ds) := r.append hd
  have hl : (us ++ ds).length = ps.length := r2.length.symm.trans (F.leng _ _ _ _ h)
  refine wpAny_call (codeAny_mono (F.runs X.A X.stack s H ⟨us, []⟩ _ _ Q E hgu hr I.env0 (hb s us I.kIn hl) r2 h) ?_)
  intro r s' hq
  match r, hq with
  | .error e, hq => exact hx pins σ H s e s' I hq
  | .ok (.ret u), hq => exact I.after hq
  | .ok .next, hq => exact False.elim hq
  | .ok .brk, hq => exact False.elim hq
  | .ok .cont, hq => exact False.elim hq
/-- f(e, ..) where no repr is under way -/
theorem pe_callG (F : FnG X.prog X.w X.K X.mg X.base CX k f fd ps sp) (hgu : X.A.guards = some []) (hr : Room k X.A) (hg : Gl X x)
    (hm : X.mg x = some (.ref f)) (hk : PySem.W.keepIn X.K (.ref f) = true) (hb : Binds X.K fd ps ds) (hd : Vals dvs ds)
    (hx : Passes CX X E) (ha : PA X (e :: es) t) (hdb : (x == ("__debug__" : Str)) = false := by decide)
    (he : starEach (e :: es) X.env = (false, eval e X.env) :: starEach es X.env := by rfl)
    (hpl : (backTo pos (starEach es X.env)).any (·.1) = false := by rfl) :
    PE X (.Call (.Name x p) (e :: es) [] pos) (tCall sp dvs E t) := by
  refine ⟨fun pins s σ H Q I h => wpAny_Call_Name_kw (ld_glob I hg hm ?_ hdb)⟩
  refine PySem.W.callWith_K (h₀ := X.base) I.ok.mod.kin hk ?_ he hpl
  refine thn (ha.run pos pins s σ H _ I h) ?_
  rintro us s1 ⟨xs, H1, I1, r, q⟩
  exact ⟨I1.kIn, runG F hgu hr hb hd hx I1 r q⟩

/-- f(k = v, ..), keywords alone -/
theorem pe_callK0 {kws : List Keyword} {tk : TA} {ks : List Str} {g : List Value → List Value → List Value} {gV : List V → List V → List V}
    (F : FnOk X.prog X.w X.K X.mg X.base CX k f fd ps sp) (hr : Room k X.A) (hg : Gl X x) (hm : X.mg x = some (.ref f))
    (hk : PySem.W.keepIn X.K (.ref f) = true) (hb : KBinds X.K fd ps ks g gV) (hx : Passes CX X E) (hkw : PK X kws tk)
    (hall : (backToKw pos (keywordEach kws X.env)).all (·.1.isSome) = true := by rfl)
    (hks : (backToKw pos (keywordEach kws X.env)).filterMap (·.1) = ks := by rfl) (hdb : (x == ("__debug__" : Str)) = false := by decide)
    (hpl : (backToKw pos (keywordEach kws X.env)).any (·.1.isNone) = false := by rfl) :
    PE X (.Call (.Name x p) [] kws pos) (tCallK sp gV E tNil tk) := by
  refine ⟨fun pins s σ H Q I h => wpAny_Call_Name_kw (ld_glob I hg hm ?_ hdb)⟩
  refine PySem.W.callWith_KW0 (h₀ := X.base) I.ok.mod.kin hk hall ?_ hpl
  refine thn (hkw.run pos pins s σ H _ I h) ?_
  rintro ws s2 ⟨zs, H2, I2, rz, q2⟩
  refine ⟨I2.kIn, ?_⟩
  rw [hks]
  exact run_fnk F hr hb hx I2 .nil rz q2
/-- repr of data that stands at an address -/
theorem call_repr (hgu : X.A.guards = some []) (hu : X.A.units + 70 < cLine) : CallR X (.builtin "repr")
    (fun xs H Q => ∃ (a : Addr) (d : PyData), xs = [.ref a] ∧ Dp X.K H (.ref a) d ∧ d.showable = true ∧ d.hasDict = false ∧
      d.depth ≤ 64 ∧ d.shown.length ≤ sizeLine ∧ Q (.str d.shown) H) := by
  intro pins s σ H xs us Q I r h
  obtain ⟨a, d, rfl, hD, hs, hn, hd, hz, q⟩ := h
  obtain ⟨u, rfl, rx⟩ := vals1 r
  obtain ⟨as, rr⟩ := Dp.reads I d _ u hD rx
  cases rx
  refine repr_of_reads' rr hs (fun z => by rw [hn] at z; cases z) hgu (by omega) (fun _ _ z => z) ?_ hz
  intro h' u tk kp
  exact ⟨.str _, H, I.kept kp, ⟨_, rfl⟩, q⟩
/-- tuple(text) -/
theorem call_tupS : CallR X (.type "tuple") (fun xs H Q => ∃ z : Str, xs = [.str z] ∧ X.A.handled = none ∧ z.cps.size ≤ sizeLine ∧
      ∀ l, H l = none → Q (.ref l) (upd H l (.tup (z.cps.toList.map fun c => V.str ⟨#[c]⟩)))) := by
  intro pins s σ H xs us Q I r h
  obtain ⟨z, rfl, hh, hz, q⟩ := h
  obtain ⟨u, rfl, t, rfl⟩ := vals1 r
  refine call_tuple_str hh z t ?_ hz
  intro h' tk acc kp hacc
  have I1 : Inv X pins σ H { s with heap := h', toks := tk } := I.kept kp
  have rv : Vals (z.cps.toList.map fun c => V.str ⟨#[c]⟩) acc.toList := by
    have key : ∀ (cs : List Nat) (us : List Value), us.length = cs.length →
        (∀ (j : Nat) (v : Value), us[j]? = some v → ∃ c u, cs[j]? = some c ∧ v = Value.str ⟨#[c]⟩ u) → Vals (cs.map fun c => V.str ⟨#[c]⟩) us := by
      intro cs
      induction cs with
      | nil =>
        intro us hl _
        match us, hl with
        | [], _ => exact .nil
      | cons c cs ih =>
        intro us hl hv
        match us, hl with
        | u :: us, hl =>
          obtain ⟨c', w', e1, e2⟩ := hv 0 u rfl
          cases e1
          exact .cons ⟨w', e2⟩ (ih us (by simpa using hl) fun j v hj => hv (j + 1) v hj)
    refine key _ _ (by simpa using hacc.1) fun j v hj => ?_
    obtain ⟨c, u, e1, e2⟩ := hacc.2 j v (by simpa using hj)
    exact ⟨c, u, by simpa using e1, e2⟩
  refine ⟨.ref h'.objs.size, _, I1.laid (t' := tk) (fun b o e => Heap.get?_push_of_some _ e) (Nat.le_refl _) ?_, rfl, q _ (I1.hok.fresh (Nat.le_refl _))⟩
  refine (show ObjOk X.prog X.w _ _ _ (.tup _) from ⟨by simpa using hz, acc.toList, rv, ?_⟩)
  rw [show acc.toList.toArray = acc from by simp]
  exact ⟨_, Heap.get?_push_size _ rfl, rfl, _, rfl⟩
end

theorem hu70 {A : Around} {k : Nat} (hr : Room k A) : A.units + 70 < cLine := by have := hr.un; omega
/-! ### the law's end: the caller has no repr under way -/
theorem law_callG {P : Program} {w : World} {K : PySem.W.Frag} {mg mb : Str → Option Value} {CX : CXT} {k : Nat}
    {fa a : Addr} {fd : FuncData} {x : Str} {sp : Sp} {s₁ : Shared} {us : List Value} {ns : List Int}
    (kin : K.In s₁.heap) (hns : s₁.heap.Ns mainGlobals mg) (hbn : s₁.heap.Ns builtinsNs mb)
    (hbb : ∀ x : Str, x ≠ "__name__" → mb x = bootBuiltins x) (nol : s₁.heap.NoLimit) (hge : s₁.gens = #[])
    (ha : s₁.heap.get? a = some { cls := .type "list", data := .seq us.toArray }) (hi : IntsAre us ns)
    (hl : ns.length ≤ sizeLine) (hr : Room k callerA)
    (F : ∀ base : Heap, K.In base → base.Ns mainGlobals mg → FnG P w K mg base CX k fa fd [x] sp)
    (hbi : ∀ (s : Shared) (u : Value), BindsTo s fd ⟨[u], []⟩ [(x, u)])
    (hsp : ∀ H : Hp, Only H → SqL K H a (ns.map V.int) → sp [.ref a] H (fun v _ => v = .bl true) fun _ _ _ => False)
    (hCX : ∀ H e s', CX [] H s₁ (fun _ _ _ => False) e s' → False) :
    codeAny (model P w) callerA (.call (.ref fa) ⟨[.ref a], []⟩)
      (fun r s' => r = .ok (.ret (.bool true)) ∧ OldK s₁.heap s'.heap ∧ s'.os = s₁.os ∧ AllBare s'.gens) s₁ := by
  have rv := vals_ints hi
  have main : ∀ H : Hp, Only H → SqL K H a (ns.map V.int) → HOk P w H s₁.heap → (∀ b, H b ≠ none → b = a) →
      (H a ≠ none → K.lookup a = none) → codeAny (model P w) callerA (.call (.ref fa) ⟨[.ref a], []⟩)
      (fun r s' => r = .ok (.ret (.bool true)) ∧ OldK s₁.heap s'.heap ∧ s'.os = s₁.os ∧ AllBare s'.gens) s₁ := by
    intro H hO hS hok hA hK
    have only : ∀ {b : Addr} {u : HO}, H b = some u → b = a := fun {b u} q => hA b (by rw [q]; simp)
    have nodict : ∀ {b : Addr} {o : Obj} {es : Array DictEntry} {ep : Nat}, s₁.heap.get? b = some o → o.data = .dict es ep → H b = none := by
      intro b o es ep q d
      cases hq : H b with
      | none => rfl
      | some u =>
        cases only hq
        rw [ha] at q; cases q; cases d
    have ns2 : ∀ {b : Addr} {m : Str → Option Value}, s₁.heap.Ns b m → (hidT s₁.heap H).Ns b m := by
      rintro b m ⟨o, es, ep, q, d, r⟩
      exact ⟨o, es, ep, hidT_get q (nodict q d), d, r⟩
    have kb : K.In (hidT s₁.heap H) := by
      intro b o q
      refine hidT_get (kin b o q) ?_
      cases hq : H b with
      | none => rfl
      | some u =>
        cases only hq
        rw [hK (by rw [hq]; simp)] at q; cases q
    obtain ⟨mc, h1, h2⟩ := nol
    have e0 : Env0 P w K mg (hidT s₁.heap H) callerA [] s₁ H :=
      { frames := rfl, mod := ⟨kb, ns2 hns, ⟨mb, ns2 hbn, hbb⟩, ⟨mc, ns2 h1, h2⟩⟩, bs := fun b o q => of_hidT q
        bsz := Nat.le_of_eq (hidT_size _ _), funs := trivial, frf := (fun b z => nomatch z), hok := hok, bare := .of_eq hge }
    refine codeAny_mono ((F _ kb (ns2 hns)).runs callerA [] s₁ H ⟨[.ref a], []⟩ [.ref a] [.ref a] _ _ rfl hr e0 (hbi s₁ (.ref a)) (.cons rfl .nil) (hsp H hO hS)) ?_
    intro r s' h
    match r, h with
    | .error e, h => exact (hCX H e s' h).elim
    | .ok .next, h => exact False.elim h
    | .ok .brk, h => exact False.elim h
    | .ok .cont, h => exact False.elim h
    | .ok (.ret u), ⟨v, H', os, bare, un, hok', rr, q⟩ =>
      have q1 : v = .bl true := q
      subst q1
      have q2 : u = Value.bool true := rr
      subst q2
      refine ⟨rfl, OldK.of_keep ?_, os, bare⟩
      intro b o e
      cases hq : H b with
      | none => exact un.keep b o e hq (fun z => nomatch z) (fun z => nomatch z)
      | some u =>
        rcases hO b with z | ⟨ob, xs, z⟩
        · rw [hq] at z; cases z
        · have e1 := (hok b _ z).1
          have e2 := (hok' b _ (un.frzs b ob _ z)).1
          rw [e] at e1; cases e1
          exact e2
  have lenV := hi.length
  cases hk : K.lookup a with
  | some o =>
    have e := kin a o hk
    rw [ha] at e
    cases e
    refine main (fun _ => none) (fun _ => .inl rfl) (.inr ⟨_, us.toArray, _, hk, rfl, rfl, rfl, ?_, by simpa using rv⟩) (fun b u z => nomatch z) (fun b z => absurd rfl z) fun z => absurd rfl z
    rw [List.size_toArray, lenV]; exact hl
  | none =>
    have only1 : ∀ b, ¬ b = a → (if b = a then some (HO.frz { cls := .type "list", data := .seq us.toArray } (.lst (ns.map V.int))) else none) = none := fun b h => if_neg h
    refine main (fun b => if b = a then some (.frz { cls := .type "list", data := .seq us.toArray } (.lst (ns.map V.int))) else none) ?_ (.inl (.inr ⟨_, if_pos rfl⟩)) ?_ ?_ fun _ => hk
    · intro b
      by_cases hb : b = a
      · exact .inr ⟨_, _, if_pos hb⟩
      · exact .inl (if_neg hb)
    · intro b u z
      by_cases hb : b = a
      · have z2 := (if_pos hb).symm.trans z
        cases z2
        subst hb
        exact ⟨ha, by rw [List.length_map]; exact hl, us, _, rv, ha⟩
      · have z2 := (if_neg hb).symm.trans z
        cases z2
    · intro b z
      exact Decidable.byContradiction fun hb => z (if_neg hb)
theorem walkG {l : PySem.W.OpenLaw} {n k : Nat} {q : Program} {loose : List Str} {XP : (Str → Option Value) → Heap → Prop}
    {YP : World → Heap → Prop} {d : DefRec} {K : Params → PySem.W.Frag} {CX : World → CXT} {sp : World → Sp} {x : Str}
    (hn : l.most = some n) (hn2 : n ≤ sizeLine) (hdf : d.params.defaults = []) (hr : Room k callerA)
    (hY : ∀ (w : World) (h : Heap), YP w h → (K w.params).In h)
    (F : ∀ (w : World) (mg : Str → Option Value) (fa : Addr) (h : Heap), (K w.params).In h → h.Ns mainGlobals mg →
      mg d.name = some (.ref fa) → ∃ fd : FuncData, (∀ (s : Shared) (u : Value), BindsTo s fd ⟨[u], []⟩ [(x, u)]) ∧
        ∀ base : Heap, (K w.params).In base → base.Ns mainGlobals mg → FnG l.prog w (K w.params) mg base (CX w) k fa fd [x] (sp w))
    (hsp : ∀ (w : World) (H : Hp) (a : Addr) (ns : List Int), ns.length ≤ n → Only H → SqL (K w.params) H a (ns.map V.int) →
      sp w [.ref a] H (fun v _ => v = .bl true) fun _ _ _ => False)
    (hCX : ∀ (w : World) (H : Hp) (s : Shared) (e : Value) (s' : Shared), CX w [] H s (fun _ _ _ => False) e s' → False) :
    PySem.W.WalkO q loose XP YP l.row.toRowW d [] (fun f vs => PySem.call f vs) := by
  refine Att.attach_call hn hdf ?_
  intro w s₀ s₁ mg mb fa o pm cd doc a us ns G Y ho hd hcd hmg hobj hints hlen hg
  have kin := hY w _ Y
  obtain ⟨fd, hb, hF⟩ := F w mg fa _ kin G.T.g hmg
  exact law_callG kin G.T.g G.T.b G.T.builtins G.T.nolimit hg hobj hints (Nat.le_trans hlen hn2) hr hF hb
    (fun H hO hS => hsp w H a ns hlen hO hS) fun H e s' => hCX w H s₁ e s'
end Sn

/-! ## Words, names and paths, in plain Lean -/
namespace Sn
open PySem PySem.Spec PyProof.Rows L2 TL

def sgnS : Str := "abcdefghijklmnopqrstuvwxyz0123456789_"
def letS : Str := "abcdefghijklmnopqrstuvwxyz"
def resv : List Str := ["as", "ask", "call", "def", "each", "else", "entry", "except", "fail", "if", "in", "let", "offer", "return",
  "set", "table", "there", "try", "use"]
/-- a word: at most eight signs, all of them out of the alphabet -/
def isW (z : Str) : Bool := decide (z.length ≤ 8) && (tl z).all fun c => decide (c ∈ tl sgnS)
/-- its first sign is a letter -/
def fstL (z : Str) : Bool := match tl z with
  | [] => false
  | c :: _ => decide (c ∈ tl letS)
def isN (z : Str) : Bool := isW z && (fstL z && !decide (z ∈ resv))
def isP (z : Str) : Bool := decide ((Txt.split z ".").length = 2) && (Txt.split z ".").all isN

/-! ### a value that is one of some texts -/
theorem inV_strs (z : Str) : ∀ l : List Str, inV (.str z) (l.map V.str) = decide (z ∈ l)
  | [] => rfl
  | x :: l => by
    show ((x == z) || inV (.str z) (l.map V.str)) = _
    rw [inV_strs z l]
    by_cases h : z = x
    · subst h; simp
    · have h2 : (x == z) = false := by simpa using fun e => h e.symm
      rw [h2, Bool.false_or]
      exact decide_eq_decide.mpr ⟨fun q => List.mem_cons.mpr (.inr q), fun q => (List.mem_cons.mp q).resolve_left h⟩
theorem flat_strs : ∀ l : List Str, (l.map V.str).all flatV = true
  | [] => rfl
  | x :: l => by
    show (true && (l.map V.str).all flatV) = true
    rw [flat_strs l]; rfl
theorem signs_map (l : List Nat) : (l.map fun c => V.str ⟨#[c]⟩) = ((l.map fun c => (⟨#[c]⟩ : Str)).map V.str) := by
  rw [List.map_map]; rfl
theorem cut1 (z : Str) : tl (cutS z none (some 1)) = (tl z).take 1 := by
  unfold cutS
  rw [show HT.sIx z.length z.length (some 1) = min 1 z.length from HT.sIx_nat _ _ 1, HT.sIx_none]
  show ((tl z).drop 0).take (min 1 z.length - 0) = _
  rw [List.drop_zero, Nat.sub_zero, len_tl, List.take_eq_take_iff]
  omega
theorem one_inj {c : Nat} {l : List Nat} : (⟨#[c]⟩ : Str) ∈ l.map (fun c => (⟨#[c]⟩ : Str)) ↔ c ∈ l := by
  constructor
  · intro h
    obtain ⟨x, hx, e⟩ := List.mem_map.mp h
    injection e with e
    have : x = c := by injection (congrArg Array.toList e)
    exact this ▸ hx
  · intro h; exact List.mem_map.mpr ⟨c, h, rfl⟩
/-- value[:1] in tuple(LETTERS) -/
theorem fst_in (z : Str) : inV (.str (cutS z none (some 1))) ((tl letS).map fun c => V.str ⟨#[c]⟩) = fstL z := by
  rw [signs_map, inV_strs]
  unfold fstL
  have h := cut1 z
  match e : tl z with
  | [] =>
    rw [e] at h
    rw [decide_eq_false_iff_not]
    intro hm
    obtain ⟨x, _, e2⟩ := List.mem_map.mp hm
    rw [← e2] at h
    cases h
  | c :: r =>
    rw [e] at h
    have e2 : cutS z none (some 1) = ⟨#[c]⟩ := ext_tl h
    rw [e2]
    exact decide_eq_decide.mpr one_inj

/-! ### the two readings of a path -/
theorem spl_ne (S : List Nat) : ∀ (l : List Nat) (k : Nat) (acc : List Nat), spl S k acc l ≠ []
  | [], k, acc => by rw [spl_nil]; simp
  | c :: r, 0, acc => by
    unfold spl
    split
    · simp
    · exact spl_ne S r 0 _
  | c :: r, k + 1, acc => by
    unfold spl
    exact spl_ne S r k acc
theorem cut_at {x : Nat} : ∀ {l : List Nat}, x ∈ l → ∃ a b, l = a ++ x :: b ∧ x ∉ a
  | y :: l, h => by
    by_cases e : x = y
    · exact ⟨[], l, by rw [e]; rfl, by simp⟩
    · have h2 : x ∈ l := by
        rcases List.mem_cons.mp h with q | q
        · exact absurd q e
        · exact q
      obtain ⟨a, b, e1, e2⟩ := cut_at h2
      exact ⟨y :: a, b, by rw [e1]; rfl, by
        intro q
        rcases List.mem_cons.mp q with q | q
        · exact e q
        · exact e2 q⟩
def dotS : Str := "."
theorem tl_dot : tl dotS = [46] := by decide +kernel
theorem dot_eq : dotS = ⟨#[46]⟩ := by decide +kernel
theorem split_tl (z : Str) : (Txt.split z dotS).map tl = spl [46] 0 [] (tl z) := by
  have h := split_spl z dotS (by rw [tl_dot]; simp) (kind_ok (by decide +kernel))
  rw [tl_dot] at h
  exact h
theorem spl_le (S : List Nat) : ∀ (l : List Nat) (k : Nat) (acc q : List Nat), q ∈ spl S k acc l → q.length ≤ acc.length + l.length
  | [], k, acc, q, h => by
    rw [spl_nil] at h
    rw [List.mem_singleton.mp h]; simp
  | c :: r, 0, acc, q, h => by
    unfold spl at h
    split at h
    · rcases List.mem_cons.mp h with h | h
      · rw [h]; simp
      · have := spl_le S r _ _ q h
        simp only [List.length_nil, List.length_cons] at this ⊢
        omega
    · have := spl_le S r _ _ q h
      simp only [List.length_append, List.length_cons, List.length_nil] at this ⊢
      omega
  | c :: r, k + 1, acc, q, h => by
    unfold spl at h
    have := spl_le S r _ _ q h
    simp only [List.length_cons]
    omega
theorem split_le (z : Str) : ∀ y ∈ Txt.split z dotS, y.length ≤ z.length := by
  intro y hy
  have h : tl y ∈ spl [46] 0 [] (tl z) := by
    rw [← split_tl]
    exact List.mem_map.mpr ⟨y, hy, rfl⟩
  have := spl_le _ _ _ _ _ h
  rw [len_tl, len_tl z]
  simpa using this
theorem split_no {z : Str} (h : 46 ∉ tl z) : Txt.split z dotS = [z] := by
  apply map_tl_inj
  rw [split_tl, spl_last1 h]
  rfl
theorem split_one {z : Str} {a b : List Nat} (e : tl z = a ++ 46 :: b) (h : 46 ∉ a) :
    (Txt.split z dotS).map tl = a :: spl [46] 0 [] b := by
  rw [split_tl, e]
  exact spl_part1 (s := 46) (S := []) (p := a) (rest := b) (acc := []) h
theorem find_dot {z : Str} {a b : List Nat} (e : tl z = a ++ 46 :: b) (h : 46 ∉ a) : Txt.find z dotS = (a.length : Int) := by
  have ne : tl dotS ≠ [] := by rw [tl_dot]; simp
  have hit : StrLaws.At z dotS z.length a.length := by
    refine (at_iff ne _).mpr ?_
    rw [tl_dot, e, List.drop_left]
    show (List.take 1 (46 :: b) == [46]) = true
    simp
  have miss : ∀ k, k < a.length → ¬ StrLaws.At z dotS z.length k := by
    intro k hk hA
    have q := (at_iff ne k).mp hA
    rw [tl_dot, e, free_of h k hk] at q
    cases q
  rcases find_whole z dotS with ⟨_, h2⟩ | ⟨i, h1, h2, h3⟩
  · exact absurd hit (h2 _)
  · rw [h1]
    by_cases hlt : i < a.length
    · exact absurd h2 (miss i hlt)
    · by_cases hgt : a.length < i
      · exact absurd hit (h3 _ hgt)
      · rw [show i = a.length by omega]
theorem cut_lo {z : Str} {a b : List Nat} (e : tl z = a ++ 46 :: b) : tl (cutS z none (some (a.length : Int))) = a := by
  unfold cutS
  rw [HT.sIx_nat, HT.sIx_none]
  show ((tl z).drop 0).take (min a.length z.length - 0) = a
  rw [len_tl, e, List.drop_zero, Nat.sub_zero, List.length_append, Nat.min_eq_left (Nat.le_add_right _ _), List.take_left]
theorem cut_hi {z : Str} {a b : List Nat} (e : tl z = a ++ 46 :: b) : tl (cutS z (some ((a.length : Int) + 1)) none) = b := by
  unfold cutS
  rw [show ((a.length : Int) + 1) = ((a.length + 1 : Nat) : Int) from rfl, HT.sIx_nat, HT.sIx_none]
  show ((tl z).drop (min (a.length + 1) z.length)).take (z.length - min (a.length + 1) z.length) = b
  rw [len_tl, e]
  have hl : min (a.length + 1) (a ++ 46 :: b).length = a.length + 1 := by
    rw [List.length_append, List.length_cons]; omega
  rw [hl, show a ++ 46 :: b = (a ++ [46]) ++ b by simp]
  have h2 : (a ++ [46]).length = a.length + 1 := by simp
  rw [← h2, List.drop_left, List.length_append, Nat.add_sub_cancel_left, List.take_length]
theorem cnt_app (c : Nat) : ∀ l r : List Nat, cnt c (l ++ r) = cnt c l + cnt c r := cnt_append c
/-- the law's own reading of a path -/
def lawP (z : Str) : Bool := if Txt.count z dotS = 1 then isN (cutS z none (some (Txt.find z dotS))) && isN (cutS z (some (Txt.find z dotS + 1)) none) else false
theorem cnt_nonneg (c : Nat) : ∀ l : List Nat, 0 ≤ cnt c l
  | [] => by rw [cnt_nil]; exact Int.le_refl 0
  | x :: l => by
    have h := cnt_nonneg c l
    rw [cnt_cons]
    split <;> omega
theorem cnt_free {c : Nat} {l : List Nat} (h : c ∉ l) : cnt c l = 0 := cnt_none c l h
theorem cnt_dot : cnt 46 [46] = 1 := by rw [cnt_cons, cnt_nil]; simp
theorem path_law (z : Str) : lawP z = isP z := by
  unfold lawP isP
  rw [show (Str.ofString "." : Str) = dotS from rfl]
  have hc : Txt.count z dotS = cnt 46 (tl z) := by rw [dot_eq]; exact count_cnt z 46
  by_cases h : 46 ∈ tl z
  · obtain ⟨a, b, e, na⟩ := cut_at h
    have c1 : cnt 46 (tl z) = 1 + cnt 46 b := by
      rw [e, show a ++ 46 :: b = a ++ ([46] ++ b) from rfl, cnt_app, cnt_app, cnt_free na, cnt_dot]
      omega
    have sp := split_one e na
    by_cases hb : 46 ∈ b
    · obtain ⟨b1, b2, e2, nb⟩ := cut_at hb
      have c2 : cnt 46 b = 1 + cnt 46 b2 := by
        rw [e2, show b1 ++ 46 :: b2 = b1 ++ ([46] ++ b2) from rfl, cnt_app, cnt_app, cnt_free nb, cnt_dot]
        omega
      have := cnt_nonneg 46 b2
      rw [if_neg (by omega)]
      have sp2 : spl [46] 0 [] b = b1 :: spl [46] 0 [] b2 := by
        rw [e2]
        exact spl_part1 (s := 46) (S := []) (p := b1) (rest := b2) (acc := []) nb
      have hl : (Txt.split z dotS).length ≠ 2 := by
        intro q
        have q2 := congrArg List.length sp
        rw [List.length_map, q, sp2] at q2
        have q3 : (spl [46] 0 [] b2).length = 0 := by
          simp only [List.length_cons] at q2
          omega
        exact spl_ne _ _ _ _ (List.length_eq_zero_iff.mp q3)
      rw [decide_eq_false hl, Bool.false_and]
    · have c2 : cnt 46 b = 0 := cnt_free hb
      rw [if_pos (by omega), find_dot e na]
      have sp2 : spl [46] 0 [] b = [b] := spl_last1 (s := 46) (S := []) (p := b) (acc := []) hb
      have e1 : Txt.split z dotS = [cutS z none (some (a.length : Int)), cutS z (some ((a.length : Int) + 1)) none] := by
        apply map_tl_inj
        rw [sp, sp2]
        show [a, b] = [tl _, tl _]
        rw [cut_lo e, cut_hi e]
      rw [e1]
      simp
  · have c0 : cnt 46 (tl z) = 0 := cnt_free h
    rw [if_neg (by omega), split_no h]
    rfl

/-! ### drawn names -/
def sufS : List Str := ["s", "_", "1", "a"]
theorem near_ok : ∀ r ∈ resv, ∀ x ∈ sufS, isN (r ++ x) = true := by decide +kernel
theorem resv_len : ∀ r ∈ resv, r.length ≤ 6 := by decide +kernel
theorem suf_len : ∀ r ∈ sufS, r.length ≤ 1 := by decide +kernel
theorem resv_no : ∀ r ∈ resv, 95 ∉ tl r := by decide +kernel
theorem let_sgn : ∀ c ∈ tl letS, c ∈ tl sgnS := by decide +kernel
theorem und_sgn : 95 ∈ tl sgnS := by decide +kernel
theorem isN_len {z : Str} (h : isN z = true) : z.length ≤ 8 := by
  unfold isN isW at h
  simp only [Bool.and_eq_true, decide_eq_true_eq] at h
  exact h.1.1
theorem isN_res {z : Str} (h : isN z = true) : z ∉ resv := by
  unfold isN at h
  simp only [Bool.and_eq_true, Bool.not_eq_true', decide_eq_false_iff_not] at h
  exact h.2.2
theorem isN_of {z : Str} {c : Nat} {r : List Nat} (e : tl z = c :: r) (hc : c ∈ tl letS) (hr : ∀ x ∈ r, x ∈ tl sgnS) (hl : r.length ≤ 7) (hn : z ∉ resv) : isN z = true := by
  have h1 : isW z = true := by
    unfold isW
    rw [len_tl, e]
    simp only [Bool.and_eq_true, decide_eq_true_eq, List.length_cons, List.all_cons, List.all_eq_true]
    exact ⟨by omega, let_sgn c hc, hr⟩
  have h2 : fstL z = true := by
    unfold fstL
    rw [e]
    exact decide_eq_true hc
  unfold isN
  rw [h1, h2, decide_eq_false hn]; rfl
theorem cut7 (z : Str) : tl (cutS z none (some 7)) = (tl z).take 7 := by
  unfold cutS
  rw [show HT.sIx z.length z.length (some 7) = min 7 z.length from HT.sIx_nat _ _ 7, HT.sIx_none]
  show ((tl z).drop 0).take (min 7 z.length - 0) = _
  rw [List.drop_zero, Nat.sub_zero, len_tl, List.take_eq_take_iff]
  omega
theorem isN_cut {z : Str} {c : Nat} {r : List Nat} (e : tl z = c :: r) (hc : c ∈ tl letS) (hr : ∀ x ∈ r, x ∈ tl sgnS) : isN (cutS z none (some 7) ++ "_") = true := by
  have e2 : tl (cutS z none (some 7) ++ "_") = c :: (r.take 6 ++ [95]) := by
    rw [tl_append, cut7, e, show tl ("_" : Str) = [95] by decide +kernel]; rfl
  refine isN_of e2 hc (fun x hx => ?_) (by rw [List.length_append, List.length_take]; show min 6 r.length + 1 ≤ 7; omega) fun hm => ?_
  · rcases List.mem_append.mp hx with h | h
    · exact hr x (List.mem_of_mem_take h)
    · rw [List.mem_singleton.mp h]; exact und_sgn
  · exact resv_no _ hm (by rw [e2]; simp)
theorem join_signs : ∀ l : List Nat, tl (Txt.join "" (l.map fun c => (⟨#[c]⟩ : Str))) = l := by
  intro l
  rw [join_eq, tl_join, List.map_map]
  have e : tl ("" : Str) = [] := by decide +kernel
  rw [e]
  have key : ∀ l : List Nat, joinL [] (l.map (tl ∘ fun c => (⟨#[c]⟩ : Str))) = l := by
    intro l
    induction l with
    | nil => rfl
    | cons a r ih =>
      cases r with
      | nil => rfl
      | cons b r =>
        show [a] ++ ([] ++ joinL [] _) = a :: b :: r
        rw [List.nil_append]
        exact congrArg (a :: ·) ih
  exact key l
end Sn

/-! ## Rules of our own: enumerate(tuple), own __len__, __contains__, operators, != -/
namespace Sn
open PySem PySem.Spec PyProof.Rows L2

/-! ### enumerate of a tuple -/
theorem enum_newT (l : Addr) (items : Array Value) (n : Nat) (dct : Option Addr) (sl : Array (Option Value)) :
    Meets (Builtin.«enumerate.__new__» ⟨[.type "enumerate", .ref l], []⟩) (fun _ R s =>
      s.heap.get? l = some { cls := .type "tuple", dict := dct, data := .seq items n, slots := sl } ∧
      R (.ok (.ret (.ref (s.heap.push { cls := .type "tuple_iterator", data := .fields #[.ref l, .int 0 0] }).objs.size)))
        { s with heap := (s.heap.push { cls := .type "tuple_iterator", data := .fields #[.ref l, .int 0 0] }).push { cls := .type "enumerate", data := .fields #[.none, .bool false, .ref s.heap.objs.size, rawInt 0, .none, .none] } }) :=
  .of_wp fun prog w A R s h => by
    obtain ⟨hp, g, d, tk, os⟩ := s
    obtain ⟨hl, h⟩ := h
    have hsub := sub_enumerate
    have hT : Heap.IsTuple (Shared.heap ⟨hp, g, d, tk, os⟩) l items := ⟨_, hl, rfl, n, rfl⟩
    wp_walk using AutoSeq1.wpAny_loadPart' hl
    refine wpAny_stack_any fun st => wpAny_pure ?_
    split
    · rename_i c _ _ _ _ _
      cases (c == Value.type "enumerate") <;> (wp_walk using AutoSeq1.wpAny_loadPart' hl, wpAny_pyIter_tuple hT; exact ⟨_, rfl, h⟩)
    · wp_walk using AutoSeq1.wpAny_loadPart' hl, wpAny_pyIter_tuple hT
      exact ⟨_, rfl, h⟩
section
variable {prog : Program} {w : World} {A : Around} {E : Value → Shared → Prop} {s : Shared}
theorem call_enumT {l : Addr} {items : Array Value} {Q : Value → Shared → Prop} (hL : s.heap.IsTuple l items)
    (h : ∀ h', IsEnum h' (s.heap.objs.size + 1) s.heap.objs.size 0 .none → h'.IsTupleIter s.heap.objs.size l 0 →
      h'.objs.size = s.heap.objs.size + 2 → (∀ b o, s.heap.get? b = some o → h'.get? b = some o) →
      Q (.ref (s.heap.objs.size + 1)) { s with heap := h' }) :
    wpAny (model prog w) A (call (.type "enumerate") [.ref l]) Q E s := by
  obtain ⟨⟨c, dct, dt, sl⟩, hl, hc, n, hd⟩ := hL
  have hc2 : c = .type "tuple" := hc
  have hd2 : dt = .seq items n := hd
  subst hc2 hd2
  refine callType_new F.called_enumerate (by decide) (F.typeCall_enumerate_1 _) (F.newCall_enumerate_1 _)
    (fun obj => F.args_object_init_2 obj _) F.entry_enumerate_new (enum_newT l items n dct sl) ⟨hl, ?_⟩
  generalize eo : ({ cls := .type "tuple_iterator", data := .fields #[.ref l, .int 0 0] } : Obj) = o1
  generalize ee : ({ cls := .type "enumerate", data := .fields #[.none, .bool false, .ref s.heap.objs.size, rawInt 0, .none, .none] } : Obj) = o2
  have hz : (s.heap.push o1).objs.size = s.heap.objs.size + 1 := Heap.size_push ..
  have g2 : ((s.heap.push o1).push o2).get? (s.heap.objs.size + 1) = some o2 := by
    have q := Heap.get?_push_size (s.heap.push o1) (o := o2) (by rw [← ee]; rfl)
    rw [hz] at q
    exact q
  have g1 : ((s.heap.push o1).push o2).get? s.heap.objs.size = some o1 :=
    Heap.get?_push_of_some _ (Heap.get?_push_size _ (by rw [← eo]; rfl))
  show _ ∧ _
  rw [hz]
  refine ⟨⟨o2, g2, by rw [← ee]⟩, h _ ?_ ⟨o1, g1, by rw [← eo], by rw [← eo]; rfl⟩ (by rw [Heap.size_push, hz]) fun b o q => Heap.get?_push_of_some _ (Heap.get?_push_of_some _ q)⟩
  show _ = some _
  rw [g2, ← ee]
end
def Iet (K : PySem.W.Frag) (a : Addr) : It :=
  ⟨fun i H => ∃ (xs : List V) (x : V), SqT K H a xs ∧ xs[i]? = some x,
   fun i H v H' => ∃ T x, v = .ref T ∧ H T = none ∧ H' = upd H T (.tup [.int (i : Nat), x]) ∧ ∀ xs, SqT K H a xs → xs[i]? = some x,
   fun i H => ∃ xs : List V, SqT K H a xs ∧ xs.length ≤ i⟩
theorem turn_enumT {P : Program} {w : World} {K : PySem.W.Frag} {elts : List Expr} {kk : Nat} {tpos : Pos} (a e it : Addr) :
    Turn P w K (.Tuple elts kk tpos) (Iet K a) [e, it] e (fun i h => (∃ old, IsEnum h e it ((i : Nat) : Int) old) ∧ h.IsTupleIter it a i ∧ e ≠ it ∧ a ≠ it ∧ e ≠ a) where
  mem := by simp
  obj := fun i h st b hb => by
    obtain ⟨⟨old, he⟩, ⟨o, ho, hc, hd⟩, _⟩ := st
    have e' : b = e ∨ b = it := by simpa using hb
    rcases e' with rfl | rfl
    · exact ⟨_, he, fun v q => nomatch q⟩
    · exact ⟨o, ho, fun v q => by rw [hd] at q; cases q⟩
  keep := fun i h h' st k => let ⟨⟨old, he⟩, hi, hne⟩ := st; ⟨⟨old, k e (by simp) _ he⟩, hi.at fun o q => k it (by simp) o q, hne⟩
  item := by
    intro X hP hw hK hc i pins s σ H E I hf st hg
    subst hP hw hK
    obtain ⟨⟨old, he⟩, hit, hne, hai, hea⟩ := st
    obtain ⟨xs, x, hq, hx⟩ := hg
    obtain ⟨its, rv, p, hz⟩ := I.tuple hq
    obtain ⟨u, hu, ru⟩ := rv.get hx
    have hel : e < s.heap.objs.size := Heap.lt_size he
    have hil : it < s.heap.objs.size := by obtain ⟨_, q, _⟩ := hit; exact Heap.lt_size q
    have hlt : i < its.toArray.size := by
      have := (List.getElem?_eq_some_iff.mp hu).1
      simpa using this
    have pT : s.heap.IsTuple a its.toArray := p
    refine wpAny_pyNext_enum_itemD (Draws.tuple (A := X.A.in1) (I.ok.hd hc) it a hai its.toArray) he ⟨hit, pT⟩ hlt hne (by simp [hne, hea]) ?_
    intro u2 h' tk hu2 ho st2 hT hsz hk
    have eu : u2 = u := by
      have q : its.toArray[i]? = some u := by simpa using hu
      exact Option.some.inj (hu2.symm.trans q)
    subst eu
    refine ⟨_, rfl, wpAny_letOwnedTupleGo_enum (s := { s with heap := h', toks := tk + 1 }) ho fun h2 he' sb => ?_⟩
    have hT2 : h2.get? s.heap.objs.size = some { cls := .type "tuple", data := .seq #[.int i tk, u2] } := (sb.2 _ (Nat.ne_of_gt hel)).trans hT
    have new : ObjOk X.prog X.w (upd H s.heap.objs.size (.tup [.int (i : Nat), x])) h2 s.heap.objs.size (.tup [.int (i : Nat), x]) :=
      ⟨by show 2 ≤ sizeLine; decide, [.int i tk, u2], .cons ⟨_, rfl⟩ (.cons ru .nil), ⟨_, hT2, rfl, _, rfl⟩⟩
    have I1 : Inv X pins σ (upd H s.heap.objs.size (.tup [.int (i : Nat), x])) { s with heap := h2, toks := tk + 1 } :=
      I.turnedNew (ch := [e, it]) (fun b ob hb q => (sb.2 b (fun z => hb (by simp [z]))).trans (hk b ob (fun z => hb (by simp [z])) (fun z => hb (by simp [z])) q)) hf (Nat.le_refl _) new
    refine ⟨.ref s.heap.objs.size, _, I1, rfl, ⟨_, x, rfl, I.hok.fresh (Nat.le_refl _), rfl, fun ys hy => by rw [I.tuple_inj hy hq]; exact hx⟩, ⟨⟨u2, ?_⟩, st2.1.at fun o q => (sb.2 it (Ne.symm hne)).trans q, hne, hai, hea⟩, fun b hb => ?_⟩
    · have e1 : ((i + 1 : Nat) : Int) = (i : Int) + 1 := by omega
      rw [e1]; exact he'
    · have e' : b = e ∨ b = it := by simpa using hb
      have hb' : b < s.heap.objs.size := by rcases e' with rfl | rfl <;> assumption
      rw [upd_ne (Nat.ne_of_lt hb')]
      exact (hf b hb).1
  done := by
    intro X hP hw hK hc i pins s σ H E I hf st hg
    subst hP hw hK
    obtain ⟨⟨old, he⟩, hit, hne, hai, hea⟩ := st
    obtain ⟨xs, hq, hx⟩ := hg
    obtain ⟨its, rv, p, hz⟩ := I.tuple hq
    obtain ⟨f0, f1, f2, f3, f4, f5⟩ := hf it (by simp)
    have hl := rv.length
    have pT : s.heap.IsTuple a its.toArray := p
    have hT : s.TypeIs (.ref e) "enumerate" := ⟨_, he, rfl⟩
    unfold pyNext
    refine wpAny_bind (wpAny_attempt (wpAny_callSpecial?_slot (name := Str.ofString "__next__") hT F.slot_enumerate_next
      (wpAny_call_entry F.slot_enumerate_next hT F.entry_enumerate_next ?_ (F.args_enumerate_next_1 _))))
    show wpAny _ _ (field (.ref e) 2 >>= _) _ _ _
    refine wpAny_bind (wpAny_field he rfl (x := .ref it) rfl (wpAny_bind (wpAny_nextOf_tuple_end (I.ok.hd hc) hit pT (by simp; omega) ?_)))
    intro h' y he' hx'
    obtain ⟨o, ho, hco⟩ := hx'
    refine wpAny_bind (wpAny_isInstance (T := "StopIteration") (b := true) ⟨o, ho, hco⟩ isSubtype_stop ?_)
    exact wpAny_pure ⟨rfl, I.turned (t' := s.toks) (fun b o hb q => he' b o hb q) f0 f1 f3 f4 f5⟩
  self := fun A i s Q E st h => let ⟨⟨_, he⟩, _⟩ := st; wpAny_pyIter_enum he h

def iEnumT (K : PySem.W.Frag) (ta : TA) : TI := fun σ H R => ta σ H fun vs H1 => ∃ a xs, vs = [.ref a] ∧ SqT K H1 a xs ∧ R (Iet K a) H1
theorem pi_enumT {X : Cx} {e : Expr} {ta : TA} {p pos tpos : Pos} {elts : List Expr} {kk : Nat} (hg : Gl X "enumerate") (hm : X.mg "enumerate" = none)
    (ha : PA X [e] ta) (hs : starEach [e] X.env = [(false, eval e X.env)] := by rfl) :
    PI X (.Tuple elts kk tpos) (.Call (.Name "enumerate" p) [e] [] pos) (iEnumT X.K ta) := by
  refine ⟨fun pins s σ H R I h => ?_⟩
  refine Call_ (ld_blt I hg hm boot_enumerate (PyProof.Rows.callWith_type1 (thn (ha.run pos pins s σ H _ I h) ?_) hs rfl))
  rintro us s1 ⟨vs, H1, I1, r1, a, xs, rfl, hq, q⟩
  match us, r1 with
  | [u], .cons r .nil =>
    cases r
    obtain ⟨its, rv, pt, hz⟩ := I1.tuple hq
    have alt : a < s1.heap.objs.size := by
      obtain ⟨o, ho, _⟩ := pt
      exact Heap.lt_size ho
    refine call_enumT pt fun h' he hit hsz hk => wpAny_pyIter_enum he ?_
    have I2 : Inv X pins σ H1 { s1 with heap := h' } := I1.kept (t' := s1.toks) hk
    refine ⟨s1.heap.objs.size + 1, [s1.heap.objs.size + 1, s1.heap.objs.size], _, _, H1, rfl, I2, turn_enumT a (s1.heap.objs.size + 1) s1.heap.objs.size,
      ⟨⟨.none, he⟩, hit, Nat.succ_ne_self _, Nat.ne_of_lt alt, Nat.ne_of_gt (Nat.lt_succ_of_lt alt)⟩, fun b hb => ?_, q⟩
    have hle : s1.heap.objs.size ≤ b := by
      have e' : b = s1.heap.objs.size + 1 ∨ b = s1.heap.objs.size := by simpa using hb
      rcases e' with rfl | rfl
      · exact Nat.le_add_right _ _
      · exact Nat.le_refl _
    exact I1.fpOk hle (I1.hok.fresh hle)
theorem walk_enumT {K : PySem.W.Frag} {a : Addr} {xs : List V} : Walk (Iet K a) xs.length (fun H => SqT K H a xs) (YPair (fun i => some (.int (i : Nat))) (fun i => xs[i]?)) := by
  refine ⟨fun i _ hi q => ⟨xs, xs[i], q, by simp [hi]⟩, fun _ q => ⟨xs, q, Nat.le_refl _⟩, fun i H v H' _ q y => ?_⟩
  obtain ⟨T, x, h1, h2, h3, h4⟩ := y
  exact ⟨T, .int (i : Nat), x, h1, h2, h3, rfl, h4 xs q⟩

/-! ### an own class's special methods -/
section
variable {X : Cx} {CX : CXT} {k : Nat} {f C : Addr} {fd : FuncData} {ps : List Str} {sp : Sp} {E : XK}
/-- an instance of C stands there -/
theorem inst_at {pins : List (Addr × Obj)} {σ : L2.St} {H : Hp} {s : Shared} {a dx : Addr} {fs : List (Str × V)} (I : Inv X pins σ H s) (h : H a = some (.ins C dx fs)) :
    ∃ ox od, PySem.W.InstAt s.heap a ox C od := by
  obtain ⟨mA, J, _⟩ := ins_get I.hok h
  obtain ⟨od, J, _⟩ := J.look
  exact ⟨_, _, J⟩
/-- x in o, by an own __contains__ -/
theorem own_in (F : FnOk X.prog X.w X.K X.mg X.base CX k f fd ps sp) (hr : Room k X.A) (hs : PySem.W.findIn X.K (.ref C) "__contains__" = some (some (.ref f)))
    (hf : PySem.W.isFn X.K (.ref f) = true) (hb : Binds X.K fd ps []) (hx : Passes CX X E) :
    OpR X (compareOp .In) (fun x y H Q => ∃ a dx fs, y = .ref a ∧ H a = some (.ins C dx fs) ∧ sp [y, x] H (fun v H' => ∃ b, v = .bl b ∧ Q (.bl b) H') E) := by
  intro pins s σ H x y v u Q I rx ry h
  obtain ⟨a, dx, fs, rfl, ha, q⟩ := h
  cases ry
  obtain ⟨ox, od, J⟩ := inst_at I ha
  obtain ⟨m, hF⟩ := I.fr
  refine PySem.W.in_K hF I.ok.mod.kin J hs hf ?_
  refine wpAny_mono (run_fn (us := [.ref a, v]) (vs := [.ref a, x]) F hr hb .nil hx I (.cons rfl (.cons rx .nil)) q) ?_ fun _ _ z => z
  rintro r s' ⟨z, H', I', rz, b, rfl, qq⟩
  cases rz
  exact wpAny_truthy_bool ⟨.bl b, H', I', rfl, qq⟩
/-- o op p, both of C, by an own operator -/
theorem own_bin {op : Operator} (F : FnOk X.prog X.w X.K X.mg X.base CX k f fd ps sp) (hr : Room k X.A) (hc : PySem.W.selfFirst X.K C = true)
    (hs : PySem.W.findIn X.K (.ref C) (PySem.dunder op.info.2) = some (some (.ref f))) (hf : PySem.W.isFn X.K (.ref f) = true) (hb : Binds X.K fd ps []) (hx : Passes CX X E) :
    OpR X (binaryOp op) (fun x y H Q => ∃ a b dx dy fs gs, x = .ref a ∧ y = .ref b ∧ H a = some (.ins C dx fs) ∧ H b = some (.ins C dy gs) ∧ sp [x, y] H Q E) := by
  intro pins s σ H x y v u Q I rx ry h
  obtain ⟨a, b, dx, dy, fs, gs, rfl, rfl, ha, hb', q⟩ := h
  cases rx
  cases ry
  obtain ⟨ox, od, J⟩ := inst_at I ha
  obtain ⟨oy, oe, J'⟩ := inst_at I hb'
  obtain ⟨m, hF⟩ := I.fr
  refine PySem.W.binop_K hF I.ok.mod.kin J J'.type hc hs hf ?_
  refine wpAny_mono (run_fn (us := [.ref a, .ref b]) (vs := [.ref a, .ref b]) F hr hb .nil hx I (.cons rfl (.cons rfl .nil)) q) ?_ fun _ _ z => z
  rintro r s' ⟨z, H', I', rz, qq⟩
  have fin : EP X pins σ Q r s' := ⟨z, H', I', rz, qq⟩
  cases r with
  | notImplemented => cases z <;> first | (cases rz; done) | (obtain ⟨t, e⟩ := rz; cases e)
  | _ => exact fin
/-- what runs one level deeper -/
theorem run_in1 {pins : List (Addr × Obj)} {σ : L2.St} {H : Hp} {s : Shared} {Q : VK} {us : List Value} {vs : List V} (F : FnOk X.prog X.w X.K X.mg X.base CX k f fd ps sp) (hr : Room (k + 1) X.A)
    (hb : Binds X.K fd ps []) (hx : Passes CX X E) (I : Inv X pins σ H s) (r : Vals vs us) (h : sp vs H Q E) :
    wpAny (model X.prog X.w) X.A.in1 (call (.ref f) us) (EP X pins σ Q) X.xe s := by
  have hl : (us ++ []).length = ps.length := by rw [List.append_nil, ← r.length]; exact F.len _ _ _ _ h
  have hbi := hb s us I.kIn hl
  rw [List.append_nil] at hbi
  refine wpAny_call (codeAny_mono (F.run X.A.in1 X.stack s H ⟨us, []⟩ us vs Q E hr.in1 I.env0.in1 hbi r h) ?_)
  intro r s' hq
  match r, hq with
  | .error e, hq => exact hx pins σ H s e s' I hq
  | .ok (.ret u), hq => exact I.after hq
  | .ok .next, hq => exact False.elim hq
  | .ok .brk, hq => exact False.elim hq
  | .ok .cont, hq => exact False.elim hq
/-- len(o), by an own __len__ -/
theorem own_len (F : FnOk X.prog X.w X.K X.mg X.base CX k f fd ps sp) (hr : Room (k + 1) X.A) (hs : PySem.W.findIn X.K (.ref C) "__len__" = some (some (.ref f)))
    (hf : PySem.W.isFn X.K (.ref f) = true) (hb : Binds X.K fd ps []) (hx : Passes CX X E) :
    CallR X (.builtin "len") (fun xs H Q => ∃ a dx fs, xs = [.ref a] ∧ H a = some (.ins C dx fs) ∧ sp [.ref a] H (fun v H' => ∃ n : Nat, n < 2 ^ 62 ∧ v = .int n ∧ Q (.int n) H') E) := by
  intro pins s σ H xs us Q I r h
  obtain ⟨a, dx, fs, rfl, ha, q⟩ := h
  obtain ⟨u, rfl, ru⟩ := vals1 r
  cases ru
  obtain ⟨ox, od, J⟩ := inst_at I ha
  obtain ⟨m, hF⟩ := I.fr
  refine PySem.W.len_K hF I.ok.mod.kin J hs hf ?_
  refine wpAny_mono (run_in1 (us := [.ref a]) (vs := [.ref a]) F hr hb hx I (.cons rfl .nil) q) ?_ fun _ _ z => z
  rintro r s' ⟨z, H', I', rz, n, hn, rfl, qq⟩
  obtain ⟨t, rfl⟩ := rz
  exact ⟨⟨by omega, by omega⟩, .int n, H', I'.tok _, ⟨_, rfl⟩, qq⟩
/-- o == p, both of C, by an own __eq__ -/
theorem own_eq (F : FnOk X.prog X.w X.K X.mg X.base CX k f fd ps sp) (hr : Room k X.A) (hs : PySem.W.findIn X.K (.ref C) "__eq__" = some (some (.ref f)))
    (hf : PySem.W.isFn X.K (.ref f) = true) (hb : Binds X.K fd ps []) (hx : Passes CX X E) :
    OpR X (compareOp .Eq) (fun x y H Q => ∃ a b dx dy fs gs, x = .ref a ∧ y = .ref b ∧ H a = some (.ins C dx fs) ∧ H b = some (.ins C dy gs) ∧ sp [x, y] H (fun v H' => ∃ b, v = .bl b ∧ Q (.bl b) H') E) := by
  intro pins s σ H x y v u Q I rx ry h
  obtain ⟨a, b, dx, dy, fs, gs, rfl, rfl, ha, hb', q⟩ := h
  cases rx
  cases ry
  obtain ⟨ox, od, J⟩ := inst_at I ha
  obtain ⟨oy, oe, J'⟩ := inst_at I hb'
  obtain ⟨m, hF⟩ := I.fr
  show wpAny (model X.prog X.w) X.A (richCompare .Eq (.ref a) (.ref b)) (EP X pins σ Q) X.xe s
  refine PySem.W.cmp_K (op := .Eq) (tb := .ref C) hr.units0 hF I.ok.mod.kin J J'.type (by simp [PySem.W.notFirst]) hs hf ?_
  refine wpAny_mono (run_fn (us := [.ref a, .ref b]) (vs := [.ref a, .ref b]) F hr hb .nil hx I (.cons rfl (.cons rfl .nil)) q) ?_ fun _ _ z => z
  rintro r s' ⟨z, H', I', rz, c, rfl, qq⟩
  cases rz
  exact ⟨.bl c, H', I', rfl, qq⟩
/-- o != p, both of C, by an own __eq__ and no own __ne__ -/
theorem own_ne (F : FnOk X.prog X.w X.K X.mg X.base CX k f fd ps sp) (hr : Room (k + 1) X.A) (hs : PySem.W.findIn X.K (.ref C) "__eq__" = some (some (.ref f)))
    (hn : PySem.W.findIn X.K (.ref C) "__ne__" = some (some (.builtin "object.__ne__"))) (hm : PySem.W.mroIn X.K C (.type "object") = some true)
    (hf : PySem.W.isFn X.K (.ref f) = true) (hb : Binds X.K fd ps []) (hx : Passes CX X E) :
    OpR X (compareOp .NotEq) (fun x y H Q => ∃ a b dx dy fs gs, x = .ref a ∧ y = .ref b ∧ H a = some (.ins C dx fs) ∧ H b = some (.ins C dy gs) ∧ sp [x, y] H (fun v H' => ∃ b, v = .bl b ∧ Q (.bl (!b)) H') E) := by
  intro pins s σ H x y v u Q I rx ry h
  obtain ⟨a, b, dx, dy, fs, gs, rfl, rfl, ha, hb', q⟩ := h
  cases rx
  cases ry
  obtain ⟨ox, od, J⟩ := inst_at I ha
  obtain ⟨oy, oe, J'⟩ := inst_at I hb'
  have KX := I.kIn
  have hu1 : X.A.units + 1 < cLine := by have := hr.un; omega
  have entry : ∀ (R : Fin → Shared → Prop), (∀ c s', EP X pins σ Q (.bool (!c)) s' → R (.done (.ret (.bool (!c)))) s') →
      wpAny (model X.prog X.w) X.A.in1 (Builtin.«object.__ne__» ⟨[.ref a, .ref b], []⟩) R X.xe s := by
    intro R hR
    unfold Builtin.«object.__ne__»
    refine wpAny_bind (m := slotArgs "__ne__" 1 _) (wpAny_pure ?_)
    refine wpAny_bind (wpAny_cRoomFor hu1 ?_)
    refine wpAny_bind (PySem.W.ifBound_K KX J hs hf ?_)
    refine wpAny_mono (run_in1 (us := [.ref a, .ref b]) (vs := [.ref a, .ref b]) F hr hb hx I (.cons rfl (.cons rfl .nil)) q) ?_ fun _ _ z => z
    rintro r s' ⟨z, H', I', rz, c, rfl, qq⟩
    cases rz
    exact wpAny_bind (wpAny_truthy_bool (wpAny_pure (hR c s' ⟨.bl (!c), H', I', rfl, qq⟩)))
  have hobj : PySem.W.Looks (model X.prog X.w) s.heap (isInstance (.ref a) (.type "object")) true := J.type.andThen (PySem.W.looks_mroIn KX hm)
  have call2 : ∀ (R : Value → Shared → Prop), (∀ c s', EP X pins σ Q (.bool (!c)) s' → R (.bool (!c)) s') →
      wpAny (model X.prog X.w) X.A (call (.builtin "object.__ne__") [.ref a, .ref b]) R X.xe s := by
    intro R hR
    refine wpAny_call (codeAny_call_builtin PySem.F.cmp_object.ne.plain PySem.F.cmpEntry_ne ?_)
    refine PySem.W.check_slot PySem.F.cmpKind_ne PySem.F.cmpSplit_ne hobj (PySem.F.cmpArgs_ne _ _) ?_
    exact entry _ fun c s' h => hR c s' h
  show wpAny (model X.prog X.w) X.A (richCompare .NotEq (.ref a) (.ref b)) (EP X pins σ Q) X.xe s
  unfold richCompare
  simp only [oneThing_ref]
  refine wpAny_holding (wpAny_bind (wpAny_cRoomFor (Nat.lt_of_succ_lt hu1) ?_))
  rw [cmpInfo_NotEq]
  dsimp only
  refine wpAny_bind (J.type.here (wpAny_bind (J'.type.here ?_)))
  rw [show (Value.ref C != Value.ref C) = false from by simp]
  simp only [Bool.false_eq_true, if_false]
  refine wpAny_bind (wpAny_pure ?_)
  simp only [Bool.false_eq_true, if_false]
  refine wpAny_bind ?_
  simp only [tryCompare]
  refine wpAny_bind ?_
  simp only [callSpecialIfBound?, bindSpecialIfBound?]
  refine wpAny_holding (wpAny_bind (wpAny_bind (wpAny_bind (J.type.here ((PySem.W.looks_findIn KX hn).here ?_)))))
  simp only [PySem.F.cmp_object.ne.bind]
  refine wpAny_bind (wpAny_askSetting (wpAny_ite ?_))
  have fin : ∀ (R : Option Value → Shared → Prop), (∀ c s', EP X pins σ Q (.bool (!c)) s' → R (some (.bool (!c))) s') →
      wpAny (model X.prog X.w) X.A (call (.builtin "object.__ne__") ([.ref a] ++ [.ref b]) >>= fun v => pure (some v)) R X.xe s :=
    fun R hR => wpAny_bind (call2 _ fun c s' h => wpAny_pure (hR c s' h))
  have last : ∀ (R : Option Value → Shared → Prop), (∀ c s', EP X pins σ Q (.bool (!c)) s' → R (some (.bool (!c))) s') →
      wpAny (model X.prog X.w) X.A (do let z ← pure (Value.builtin "object.__ne__", [Value.ref a]); pure (some z)) (fun r s' =>
        wpAny (model X.prog X.w) X.A (match r with
          | some (g, first) => do let z ← call g (first ++ [Value.ref b]); pure (some z)
          | _ => pure none) R X.xe s') X.xe s := fun R hR => wpAny_bind (wpAny_pure (wpAny_pure (fin R hR)))
  split
  · exact last _ fun c s' h => wpAny_pure (wpAny_pure h)
  · exact wpAny_tryCatch (last _ fun c s' h => wpAny_pure (wpAny_pure h))
end
end Sn

/-! ## Rules of our own: C(), C(*xs), cls(*xs), C.m(), o.m(k = v) -/
namespace Sn
open PySem PySem.Spec PyProof.Rows L2
section
variable {X : Cx} {CX : CXT} {k i : Nat} {f C : Addr} {fd : FuncData} {ps : List Str} {sp : Sp} {E : XK} {x m : Str} {e o : Expr} {es : List Expr} {te ta : TE} {t : TA} {p sp_ pos apos : Pos}
/-- C(), __init__ with a star -/
theorem pe_makeR0 (M : Mk X.K C f) (F : FnR X.prog X.w X.K X.mg X.base CX k f sp) (hr : Room (k + 1) X.A) (hg : Gl X x) (hm : X.mg x = some (.ref C)) (hx : Passes CX X E)
    (hdb : (x == ("__debug__" : Str)) = false := by decide) : PE X (.Call (.Name x p) [] [] pos) (StX.tMakeR C sp E tNil) :=
  ⟨fun pins s σ H Q I h => wpAny_Call_Name_kw (ld_glob I hg hm (PySem.W.callWith_K0 I.kIn M.kp (StX.run_makeR (us := []) M F hr hx I .nil h)) hdb)⟩
/-- C(*xs): xs a tuple or a list -/
def tMakeS (K : PySem.W.Frag) (C : Addr) (sp : Sp) (E : XK) (te : TE) : TE := fun σ H Q => te σ H fun y H1 => ∃ a xs, y = V.ref a ∧ (SqT K H1 a xs ∨ SqL K H1 a xs) ∧
  ∀ x dx, H1 x = none → H1 dx = none → dx ≠ x → sp (V.ref x :: xs) (upd (upd H1 dx (.own x)) x (.ins C dx [])) (fun v H2 => v = .non ∧ Q (.ref x) H2) E
theorem pe_makeS (M : Mk X.K C f) (F : FnR X.prog X.w X.K X.mg X.base CX k f sp) (hr : Room (k + 1) X.A) (hg : Gl X x) (hm : X.mg x = some (.ref C)) (hx : Passes CX X E) (he : PE X e te)
    (hdb : (x == ("__debug__" : Str)) = false := by decide) (hst : starEach [.Starred e sp_] X.env = [(true, eval e X.env)] := by rfl) :
    PE X (.Call (.Name x p) [.Starred e sp_] [] pos) (tMakeS X.K C sp E te) := by
  refine ⟨fun pins s σ H Q I h => wpAny_Call_Name_kw (ld_glob I hg hm ?_ hdb)⟩
  refine PySem.W.callWith_S (h₀ := X.base) I.ok.mod.kin M.kp (thn (he.run pins s σ H _ I h) ?_) hst
  rintro v s1 ⟨y, H1, I1, ry, a, xs, rfl, hxs, q⟩
  cases ry
  exact StX.star_any I1 hxs fun us s2 I2 rv => ⟨I2.kIn, StX.run_makeR M F hr hx I2 rv q⟩
/-- cls(*xs), cls a name of the def that holds the class C -/
theorem pe_clsS (M : Mk X.K C f) (F : FnR X.prog X.w X.K X.mg X.base CX k f sp) (hr : Room (k + 1) X.A) (hN : X.N[i]? = some x) (hv : Vis X.env.scope x) (hx : Passes CX X E) (he : PE X e te)
    (hdb : (x == ("__debug__" : Str)) = false := by decide) (hcd : (x == ("__classdict__" : Str)) = false := by decide) (hst : starEach [.Starred e sp_] X.env = [(true, eval e X.env)] := by rfl) :
    PE X (.Call (.Name x p) [.Starred e sp_] [] pos) (fun σ H Q => σ[i]? = some (some (.ref C)) ∧ tMakeS X.K C sp E te σ H Q) := by
  refine ⟨fun pins s σ H Q I h => ?_⟩
  obtain ⟨h1, h2⟩ := h
  refine Call_ (thn ((pe_var (pos := p) hN hv hdb hcd).run pins s σ H (fun v H' => v = .ref C ∧ H' = H) I ⟨_, h1, rfl, rfl⟩) ?_) (by rfl)
  rintro u s1 ⟨y, H1, I1, ry, rfl, rfl⟩
  cases ry
  refine PySem.W.callWith_S (h₀ := X.base) I1.ok.mod.kin M.kp (thn (he.run pins s1 σ _ _ I1 h2) ?_) hst
  rintro v s2 ⟨y, H2, I2, ry, a, xs, rfl, hxs, q⟩
  cases ry
  exact StX.star_any I2 hxs fun us s3 I3 rv => ⟨I3.kIn, StX.run_makeR M F hr hx I3 rv q⟩
/-- C.m(), m a classmethod -/
theorem pe_cmeth0 {mc : Value} {q g : Addr} {pl : Sem Bool} (he : PE X o ta) (r : ClX.CRead X.K C mc) (c : ClX.CMet X.K C mc m q g) (F : FnR X.prog X.w X.K X.mg X.base CX k g sp) (hr : Room k X.A) (hx : Passes CX X E)
    (ht : eval (.Call (.Attribute o m apos) [] [] pos) X.env = (do
      let ov ← eval o X.env
      standAt apos.atName
      let (f, first) ← holding [ov] (getMethod ov m pl)
      callWith pos f first (backTo pos (starEach [] X.env)) (backToKw pos (keywordEach [] X.env))) := by rfl) :
    PE X (.Call (.Attribute o m apos) [] [] pos) (ClX.tCMeth C sp E ta tNil) := by
  refine ⟨fun pins s σ H Q I h => ?_⟩
  refine PySem.W.methodCall_KW (pl := pl) (thn (he.run pins s σ H _ I h) ?_) ht
  rintro u s1 ⟨y, H1, I1, ry, rfl, z⟩
  cases ry
  refine ClX.getmethcm_ok I1 r c fun s2 I2 => ?_
  exact PySem.W.callWith_M0 (first := []) (K := X.K) ⟨ClX.pin_at I2, I2.kIn⟩ c.fi (ClX.run_cm (us := []) F hr hx I2 .nil z)
/-- o.m(k = v), keywords alone -/
def tMethK (C : Addr) (m : Str) (sp : Sp) (gV : List V → List V → List V) (E : XK) (ta : TE) (tk : TA) : TE := fun σ H Q => ta σ H fun x H1 => ∃ a dx fs, x = .ref a ∧ H1 a = some (.ins C dx fs) ∧ fs.lookup m = none ∧
  tk σ H1 fun zs H2 => sp (gV [x] zs) H2 Q E
theorem pe_methK0 {pl : Sem Bool} {kws : List Keyword} {tk : TA} {ks : List Str} {g : List Value → List Value → List Value} {gV : List V → List V → List V} (he : PE X o ta) (c : Cls X.K C) (hm : Meth X.K C m f)
    (F : FnOk X.prog X.w X.K X.mg X.base CX k f fd ps sp) (hr : Room k X.A) (hb : KBinds X.K fd ps ks g gV) (hx : Passes CX X E) (hkw : PK X kws tk)
    (hall : (backToKw pos (keywordEach kws X.env)).all (·.1.isSome) = true := by rfl) (hks : (backToKw pos (keywordEach kws X.env)).filterMap (·.1) = ks := by rfl)
    (hpl : (backToKw pos (keywordEach kws X.env)).any (·.1.isNone) = false := by rfl)
    (ht : eval (.Call (.Attribute o m apos) [] kws pos) X.env = (do
      let ov ← eval o X.env
      standAt apos.atName
      let (f, first) ← holding [ov] (getMethod ov m pl)
      callWith pos f first (backTo pos (starEach [] X.env)) (backToKw pos (keywordEach kws X.env))) := by rfl) :
    PE X (.Call (.Attribute o m apos) [] kws pos) (tMethK C m sp gV E ta tk) := by
  refine ⟨fun pins s σ H Q I h => ?_⟩
  refine PySem.W.methodCall_KW (pl := pl) (thn (he.run pins s σ H _ I h) ?_) ht
  rintro u s1 ⟨y, H1, I1, ry, a, dx, fs, rfl, ea, l, q⟩
  cases ry
  refine getmeth_ok I1 ea c hm l ?_
  refine PySem.W.callWith_KW0 (first := [.ref a]) (h₀ := X.base) I.ok.mod.kin hm.kp hall (thn (hkw.run pos pins s1 σ H1 _ I1 q) ?_) hpl
  rintro ws s2 ⟨zs, H2, I2, rz, q2⟩
  refine ⟨I2.kIn, ?_⟩
  rw [hks]
  exact run_fnk (us := [.ref a]) (vs := [.ref a]) F hr hb hx I2 (.cons rfl .nil) rz q2
/-- e.f, where the knowledge is named (in a comprehension) -/
theorem pe_fldK {K : PySem.W.Frag} {f : Str} (he : PE X e te) (hb : attributeBase e f X.env (eval e X.env) = eval e X.env := by rfl) (hK : X.K = K := by rfl) : PE X (.Attribute e f pos) (tFld K te f) := by
  subst hK
  exact pe_fld he hb
theorem op_in_seqK {K : PySem.W.Frag} (hK : X.K = K := by rfl) : OpR X (compareOp .In) (rIn K false) := by
  subst hK
  exact op_in_seq
theorem op_notIn_seqK {K : PySem.W.Frag} (hK : X.K = K := by rfl) : OpR X (compareOp .NotIn) (rIn K true) := by
  subst hK
  exact op_notIn_seq
theorem op_eqDK {K : PySem.W.Frag} (hu : X.A.units + 64 < cLine) (hK : X.K = K := by rfl) : OpR X (compareOp .Eq) (rEqD K) := by
  subst hK
  exact op_eqD hu
theorem op_neDK {K : PySem.W.Frag} (hu : X.A.units + 64 < cLine) (hK : X.K = K := by rfl) : OpR X (compareOp .NotEq) (rNeD K) := by
  subst hK
  exact op_neD hu
theorem ix_listK {K : PySem.W.Frag} (hK : X.K = K := by rfl) : IxR X (rIxL K) := by
  subst hK
  exact ix_list
theorem ix_tupK {K : PySem.W.Frag} (hK : X.K = K := by rfl) : IxR X (rIxT K) := by
  subst hK
  exact ix_tup
end
end Sn

/-! ## Rules of our own: bool(o), o == v of any v, repr of scalars -/
namespace Sn
open PySem PySem.Spec PyProof.Rows L2
def isTy : Value → Bool
  | .type _ => true
  | _ => false
/-- a built-in type is no own class -/
theorem sub_own {K : PySem.W.Frag} {T : String} (C : Addr) (h : ((fastBuiltinMro T).map fun l => l.all isTy) = some true) : PySem.W.subIn K (.type T) (.ref C) = some false := by
  show (fastBuiltinMro T).map (·.contains (.ref C)) = _
  cases e : fastBuiltinMro T with
  | none => rw [e] at h; cases h
  | some l =>
    rw [e] at h
    have hl : l.all isTy = true := Option.some.inj h
    show some (l.contains (.ref C)) = _
    congr 1
    refine Bool.eq_false_iff.mpr fun q => ?_
    have := List.all_eq_true.mp hl _ (List.contains_iff_mem.mp q)
    cases this
theorem kit_not {K : PySem.W.Frag} {T : String} {C : Addr} (hc : (PySem.W.clsIn K C).isSome = true) (ht : PySem.W.typeIn K (.ref C) = some (.type "type")) (h : PySem.W.subIn K (.type T) (.ref C) = some false) : PySem.W.kitOne K (.type T) (.ref C) = some false := by
  unfold PySem.W.kitOne PySem.W.kitCls
  rw [if_neg (by simp)]
  show (if ((PySem.W.clsIn K C).isSome && PySem.W.typeIn K (.ref C) == some (.type "type")) = true then PySem.W.subIn K (.type T) (.ref C) else none) = _
  rw [if_pos (by rw [hc, ht]; rfl)]
  exact h
/-- a value of a built-in type that is met in the laws -/
inductive TyB (K : PySem.W.Frag) (H : Hp) : V → String → Prop
  | non : TyB K H .non "NoneType"
  | bl (b : Bool) : TyB K H (.bl b) "bool"
  | int (i : Int) : TyB K H (.int i) "int"
  | str (z : Str) : TyB K H (.str z) "str"
  | lst {a : Addr} {xs : List V} (h : H a = some (.lst xs)) : TyB K H (.ref a) "list"
  | tup {a : Addr} {xs : List V} (h : H a = some (.tup xs)) : TyB K H (.ref a) "tuple"
  | dK {a : Addr} {kvs : List (Key × V)} (h : H a = some (.dK kvs)) : TyB K H (.ref a) "dict"
theorem TyB.ty {K : PySem.W.Frag} {H : Hp} {v : V} {T : String} (h : TyB K H v T) : TyX K H v (.type T) := by
  cases h with
  | non => exact .base .non
  | bl b => exact .base (.bl b)
  | int i => exact .base (.int i)
  | str z => exact .base (.str z)
  | lst h => exact .base (.lst h)
  | tup h => exact .base (.tup h)
  | dK h => exact .base (.dK h)
theorem TyB.sub {K : PySem.W.Frag} {H : Hp} {v : V} {T : String} (h : TyB K H v T) (C : Addr) : PySem.W.subIn K (.type T) (.ref C) = some false := by
  cases h <;> exact sub_own C (by decide +kernel)
theorem TyB.same {K : PySem.W.Frag} {H H' : Hp} {v : V} {T : String} (h : TyB K H v T) (s : Same H H') : TyB K H' v T := by
  cases h with
  | non => exact .non
  | bl b => exact .bl b
  | int i => exact .int i
  | str z => exact .str z
  | lst h => exact .lst (s _ _ h)
  | tup h => exact .tup (s _ _ h)
  | dK h => exact .dK (s _ _ h)
section
variable {X : Cx} {CX : CXT} {k : Nat} {f C : Addr} {fd : FuncData} {ps : List Str} {sp : Sp} {E : XK}
/-- o == v, v of a built-in type, by an own __eq__ -/
theorem own_eqB (F : FnOk X.prog X.w X.K X.mg X.base CX k f fd ps sp) (hr : Room k X.A) (hs : PySem.W.findIn X.K (.ref C) "__eq__" = some (some (.ref f)))
    (hf : PySem.W.isFn X.K (.ref f) = true) (hb : Binds X.K fd ps []) (hx : Passes CX X E) :
    OpR X (compareOp .Eq) (fun x y H Q => ∃ a dx fs, x = .ref a ∧ H a = some (.ins C dx fs) ∧ ((∃ b dy gs, y = .ref b ∧ H b = some (.ins C dy gs)) ∨ ∃ T, TyB X.K H y T) ∧ sp [x, y] H (fun v H' => ∃ b, v = .bl b ∧ Q (.bl b) H') E) := by
  intro pins s σ H x y v u Q I rx ry h
  obtain ⟨a, dx, fs, rfl, ha, hy, q⟩ := h
  cases rx
  obtain ⟨ox, od, J⟩ := inst_at I ha
  obtain ⟨m, hF⟩ := I.fr
  have main : ∀ {tb : Value}, PySem.W.Looks (model X.prog X.w) s.heap (typeOf u) tb → PySem.W.notFirst X.K C tb = true → wpAny (model X.prog X.w) X.A (richCompare .Eq (.ref a) u) (EP X pins σ Q) X.xe s := by
    intro tb hty hnf
    refine PySem.W.cmp_K (op := .Eq) (tb := tb) hr.units0 hF I.ok.mod.kin J hty hnf hs hf ?_
    refine wpAny_mono (run_fn (us := [.ref a, u]) (vs := [.ref a, y]) F hr hb .nil hx I (.cons rfl (.cons ry .nil)) q) ?_ fun _ _ z => z
    rintro r s' ⟨z, H', I', rz, c, rfl, qq⟩
    cases rz
    exact ⟨.bl c, H', I', rfl, qq⟩
  show wpAny (model X.prog X.w) X.A (richCompare .Eq (.ref a) u) (EP X pins σ Q) X.xe s
  rcases hy with ⟨b, dy, gs, rfl, hb'⟩ | ⟨T, ht⟩
  · cases ry
    obtain ⟨oy, oe, J'⟩ := inst_at I hb'
    exact main J'.type (by simp [PySem.W.notFirst])
  · obtain ⟨P, Z, p, _⟩ := kit_of I ry ht.ty
    refine main (Z.ty _ _ I.kIn p) ?_
    unfold PySem.W.notFirst
    rw [ht.sub C]
    simp
/-- bool(o), by an own __bool__ -/
theorem own_bool (G : FnOk X.prog X.w X.K X.mg X.base CX k f fd ps sp) (hr : Room (k + 4) X.A) (hs : PySem.W.findIn X.K (.ref C) "__bool__" = some (some (.ref f)))
    (hf : PySem.W.isFn X.K (.ref f) = true) (hb : Binds X.K fd ps []) (hx : Passes CX X E) :
    CallR X (.type "bool") (fun xs H Q => ∃ a dx fs, xs = [.ref a] ∧ H a = some (.ins C dx fs) ∧ sp [.ref a] H (fun v H' => ∃ b, v = .bl b ∧ Q (.bl b) H') E) := by
  intro pins s σ H xs us Q I r h
  obtain ⟨a, dx, fs, rfl, ha, q⟩ := h
  obtain ⟨u, rfl, ru⟩ := vals1 r
  cases ru
  obtain ⟨ox, od, J⟩ := inst_at I ha
  obtain ⟨m, hF⟩ := I.fr
  refine ks_callType_codesW (Q₁ := fun obj s₁ => ∃ b H', obj = .bool b ∧ Inv X pins σ H' s₁ ∧ Q (.bl b) H') F.called_bool (fun h => wpAny_of_eq (F.typeCall_bool_1 _) h) F.entry_object_init ?_ ?_
  · refine codeAny_of_tree ?_
    show wpAny _ X.A.in1.in1 (do checkBuiltinCall "bool.__new__" ⟨[.type "bool", .ref a], []⟩; again (.builtin "bool.__new__" ⟨[.type "bool", .ref a], []⟩)) _ _ s
    refine wpAny_bind (wpAny_of_eq (F.newCall_bool_1 _) (wpAny_pure ⟨plainId_quiet (by decide +kernel) _, codeAny_builtin F.entry_bool_new ?_⟩))
    rw [Around.under_plainId (by decide +kernel) _]
    unfold Builtin.«bool.__new__»
    have f1 := F.conv_sub_bool
    have hl : (([Value.ref a] : List Value) ++ []).length = ps.length := by
      have := G.len _ _ _ _ q
      simpa using this
    have hbi := hb s [.ref a] I.kIn hl
    rw [List.append_nil] at hbi
    have tr : ∀ {Q' : Bool → Shared → Prop}, (∀ b s' H', Inv X pins σ H' s' → Q (.bl b) H' → Q' b s') → wpAny (model X.prog X.w) X.A.in1.in1 (truthy (.ref a)) Q' X.xe s := by
      intro Q' hQ'
      refine PySem.W.truthy_K hF I.ok.mod.kin J hs hf (wpAny_call (codeAny_mono (G.run X.A.in1.in1 X.stack s H ⟨[.ref a], []⟩ [.ref a] [.ref a] (fun v H' => ∃ b, v = .bl b ∧ Q (.bl b) H') E (hr.mono (j := k + 2) (by omega)).in1.in1 I.env0.in1.in1 hbi (.cons rfl .nil) q) ?_))
      intro r s' hq
      match r, hq with
      | .error e, hq => exact hx pins σ H s e s' I hq
      | .ok (.ret u), hq =>
        obtain ⟨z, H', I', rz, b, rfl, qq⟩ := I.after hq
        cases rz
        exact hQ' b s' H' I' qq
      | .ok .next, hq => exact False.elim hq
      | .ok .brk, hq => exact False.elim hq
      | .ok .cont, hq => exact False.elim hq
    have fin : ∀ {Q' : Bool → Shared → Prop} {E' : Value → Shared → Prop}, (∀ b s' H', Inv X pins σ H' s' → Q (.bl b) H' → Q' b s') → (∀ e s', X.xe e s' → E' e s') → wpAny (model X.prog X.w) X.A.in1.in1 (truthy (.ref a)) Q' E' s :=
      fun h1 h2 => wpAny_mono (tr h1) (fun _ _ z => z) h2
    obtain ⟨hp, g, d, tk, os⟩ := s
    repeat (any_goals (first | assumption | (with_reducible refine fin ?_ (fun _ _ z => z)) | wp_step))
    intro b s' H' I' qq
    exact wpAny_pure ⟨b, H', rfl, I', qq⟩
  · rintro obj s1 ⟨b, H', rfl, I', qq⟩
    refine ⟨rfl, F.args_object_init_2 _ _, ?_⟩
    exact object_init_meets F.called_bool.init.lookup F.called_bool.made F.newNe_bool _ _ _ _ _ ⟨rfl, rfl, .bl b, H', I', rfl, qq⟩
/-- repr of what is no container -/
def shV : V → Option Str
  | .non => some "None"
  | .bl b => some (if b then "True" else "False")
  | .int i => some (toString i)
  | _ => none
theorem call_reprS : CallR X (.builtin "repr") (fun xs H Q => ∃ (x : V) (z : Str), xs = [x] ∧ shV x = some z ∧ (∀ i, x = .int i → i.natAbs.log2 < 1920) ∧ Q (.str z) H) := by
  intro pins s σ H xs us Q I r h
  obtain ⟨x, z, rfl, hz, hi, q⟩ := h
  obtain ⟨u, rfl, ru⟩ := vals1 r
  cases x <;> first | (cases hz; done) | skip
  · cases ru
    cases hz
    exact PySem.P.repr_of_none ⟨.str _, H, I.tok _, ⟨_, rfl⟩, q⟩
  · cases ru
    cases hz
    exact PySem.P.repr_of_bool ⟨.str _, H, I.tok _, ⟨_, rfl⟩, q⟩
  · obtain ⟨t, rfl⟩ := ru
    cases hz
    exact PySem.P.repr_of_int (hi _ rfl) ⟨.str _, H, I.tok _, ⟨_, rfl⟩, q⟩
end
end Sn

/-! ## Data that stands on the heap: none, bools, ints, texts, lists and tuples of such -/
namespace Sn
open PySem PySem.Spec PyProof.Rows L2
mutual
/-- the value v is the data d -/
inductive Dh (H : Hp) : V → PyData → Prop
  | non : Dh H .non .none
  | bl (b : Bool) : Dh H (.bl b) (.bool b)
  | int (i : Int) : Dh H (.int i) (.int i)
  | str (x : Str) : Dh H (.str x) (.str x)
  | lst {a : Addr} {xs : List V} {ds : List PyData} : H a = some (.lst xs) → DhAll H xs ds → Dh H (.ref a) (.list ds)
  | tup {a : Addr} {xs : List V} {ds : List PyData} : H a = some (.tup xs) → DhAll H xs ds → Dh H (.ref a) (.tuple ds)
  | dk {a : Addr} : H a = some (.dK []) → Dh H (.ref a) (.dict [])
inductive DhAll (H : Hp) : List V → List PyData → Prop
  | nil : DhAll H [] []
  | cons {v : V} {vs : List V} {d : PyData} {ds : List PyData} : Dh H v d → DhAll H vs ds → DhAll H (v :: vs) (d :: ds)
end
mutual
theorem Dh.same {H H' : Hp} (sm : Same H H') : ∀ {v : V} {d : PyData}, Dh H v d → Dh H' v d
  | _, _, .non => .non
  | _, _, .bl b => .bl b
  | _, _, .int i => .int i
  | _, _, .str x => .str x
  | _, _, .lst h a => .lst (sm _ _ h) (a.same sm)
  | _, _, .tup h a => .tup (sm _ _ h) (a.same sm)
  | _, _, .dk h => .dk (sm _ _ h)
theorem DhAll.same {H H' : Hp} (sm : Same H H') : ∀ {v : List V} {d : List PyData}, DhAll H v d → DhAll H' v d
  | _, _, .nil => .nil
  | _, _, .cons h a => .cons (h.same sm) (a.same sm)
end
theorem DhAll.len {H : Hp} : ∀ {vs : List V} {ds : List PyData}, DhAll H vs ds → vs.length = ds.length
  | _, _, .nil => rfl
  | _, _, .cons _ a => by rw [List.length_cons, List.length_cons, a.len]
theorem DhAll.get {H : Hp} : ∀ {vs : List V} {ds : List PyData}, DhAll H vs ds → ∀ {i : Nat} {v : V}, vs[i]? = some v → ∃ d, ds[i]? = some d ∧ Dh H v d
  | _, _, .nil, i, v, h => by simp at h
  | _, _, .cons h a, 0, v, e => by
    simp only [List.getElem?_cons_zero, Option.some.injEq] at e
    subst e
    exact ⟨_, rfl, h⟩
  | _, _, .cons h a, i + 1, v, e => by
    simp only [List.getElem?_cons_succ] at e ⊢
    exact a.get e
theorem DhAll.at {H : Hp} {vs : List V} {ds : List PyData} (a : DhAll H vs ds) {i : Nat} (h : i < ds.length) : ∃ v d, vs[i]? = some v ∧ ds[i]? = some d ∧ Dh H v d := by
  have h1 : i < vs.length := by rw [a.len]; exact h
  obtain ⟨d, e, q⟩ := a.get (List.getElem?_eq_getElem h1)
  exact ⟨_, d, List.getElem?_eq_getElem h1, e, q⟩
theorem DhAll.app {H : Hp} : ∀ {vs ws : List V} {ds es : List PyData}, DhAll H vs ds → DhAll H ws es → DhAll H (vs ++ ws) (ds ++ es)
  | _, _, _, _, .nil, b => b
  | _, _, _, _, .cons h a, b => .cons h (a.app b)
theorem DhAll.take {H : Hp} : ∀ {vs : List V} {ds : List PyData}, DhAll H vs ds → ∀ n, DhAll H (vs.take n) (ds.take n)
  | _, _, .nil, n => by simp; exact .nil
  | _, _, .cons h a, 0 => .nil
  | _, _, .cons h a, n + 1 => .cons h (a.take n)
theorem DhAll.drop {H : Hp} : ∀ {vs : List V} {ds : List PyData}, DhAll H vs ds → ∀ n, DhAll H (vs.drop n) (ds.drop n)
  | _, _, .nil, n => by simp; exact .nil
  | _, _, .cons h a, 0 => .cons h a
  | _, _, .cons h a, n + 1 => a.drop n
/-- the type's name -/
def dTy : PyData → String
  | .none => "NoneType"
  | .bool _ => "bool"
  | .int _ => "int"
  | .str _ => "str"
  | .list _ => "list"
  | .tuple _ => "tuple"
  | .dict _ => "dict"
theorem Dh.ty {K : PySem.W.Frag} {H : Hp} {v : V} {d : PyData} (h : Dh H v d) : TyX K H v (.type (dTy d)) := by
  cases h with
  | non => exact .base .non
  | bl b => exact .base (.bl b)
  | int i => exact .base (.int i)
  | str x => exact .base (.str x)
  | lst h a => exact .base (.lst h)
  | tup h a => exact .base (.tup h)
  | dk h => exact .base (.dK h)
def isS : PyData → Bool
  | .str _ => true
  | _ => false
def isT : PyData → Bool
  | .tuple _ => true
  | _ => false
def isI : PyData → Bool
  | .int _ => true
  | .bool _ => true
  | _ => false
def isB : PyData → Bool
  | .bool _ => true
  | _ => false
theorem kit_s {K : PySem.W.Frag} {d : PyData} : PySem.W.kitOne K (.type (dTy d)) (.type "str") = some (isS d) := by
  cases d with
  | none => exact kit_ty (show kitB "NoneType" "str" = some false by decide +kernel)
  | bool _ => exact kit_ty (show kitB "bool" "str" = some false by decide +kernel)
  | int _ => exact kit_ty (show kitB "int" "str" = some false by decide +kernel)
  | str _ => exact kit_ty (show kitB "str" "str" = some true by decide +kernel)
  | list _ => exact kit_ty (show kitB "list" "str" = some false by decide +kernel)
  | tuple _ => exact kit_ty (show kitB "tuple" "str" = some false by decide +kernel)
  | dict _ => exact kit_ty (show kitB "dict" "str" = some false by decide +kernel)
theorem kit_t {K : PySem.W.Frag} {d : PyData} : PySem.W.kitOne K (.type (dTy d)) (.type "tuple") = some (isT d) := by
  cases d with
  | none => exact kit_ty (show kitB "NoneType" "tuple" = some false by decide +kernel)
  | bool _ => exact kit_ty (show kitB "bool" "tuple" = some false by decide +kernel)
  | int _ => exact kit_ty (show kitB "int" "tuple" = some false by decide +kernel)
  | str _ => exact kit_ty (show kitB "str" "tuple" = some false by decide +kernel)
  | list _ => exact kit_ty (show kitB "list" "tuple" = some false by decide +kernel)
  | tuple _ => exact kit_ty (show kitB "tuple" "tuple" = some true by decide +kernel)
  | dict _ => exact kit_ty (show kitB "dict" "tuple" = some false by decide +kernel)
theorem kit_i {K : PySem.W.Frag} {d : PyData} : PySem.W.kitOne K (.type (dTy d)) (.type "int") = some (isI d) := by
  cases d with
  | none => exact kit_ty (show kitB "NoneType" "int" = some false by decide +kernel)
  | bool _ => exact kit_ty (show kitB "bool" "int" = some true by decide +kernel)
  | int _ => exact kit_ty (show kitB "int" "int" = some true by decide +kernel)
  | str _ => exact kit_ty (show kitB "str" "int" = some false by decide +kernel)
  | list _ => exact kit_ty (show kitB "list" "int" = some false by decide +kernel)
  | tuple _ => exact kit_ty (show kitB "tuple" "int" = some false by decide +kernel)
  | dict _ => exact kit_ty (show kitB "dict" "int" = some false by decide +kernel)
theorem kit_b {K : PySem.W.Frag} {d : PyData} : PySem.W.kitOne K (.type (dTy d)) (.type "bool") = some (isB d) := by
  cases d with
  | none => exact kit_ty (show kitB "NoneType" "bool" = some false by decide +kernel)
  | bool _ => exact kit_ty (show kitB "bool" "bool" = some true by decide +kernel)
  | int _ => exact kit_ty (show kitB "int" "bool" = some false by decide +kernel)
  | str _ => exact kit_ty (show kitB "str" "bool" = some false by decide +kernel)
  | list _ => exact kit_ty (show kitB "list" "bool" = some false by decide +kernel)
  | tuple _ => exact kit_ty (show kitB "tuple" "bool" = some false by decide +kernel)
  | dict _ => exact kit_ty (show kitB "dict" "bool" = some false by decide +kernel)
section
variable {X : Cx}
/-- isinstance, the knowledge named -/
theorem call_isiN {K : PySem.W.Frag} (hK : X.K = K := by rfl) : CallR X (.builtin "isinstance") (rIsi K) := by
  subst hK
  exact call_isi
/-- len, the knowledge named -/
theorem call_lenN {K : PySem.W.Frag} (hK : X.K = K := by rfl) : CallR X (.builtin "len") (fun xs H Q => ∃ x n, xs = [x] ∧ LenV K x H n ∧ Q (.int n) H) := by
  subst hK
  exact call_len
/-- a tuple as target, the knowledge named -/
theorem pg_tupK {K : PySem.W.Frag} {es : List Expr} {k : Nat} {t : TGs} {n : Nat} {pos : Pos} (hc : X.calm = true) (h : PGs X es t) (hn : (assignEach es X.env).length = n := by rfl)
    (hst : (assignEach es X.env).findIdx? (·.1) = none := by rfl) (hK : X.K = K := by rfl) : PG X (.Tuple es k pos) (gTup K n t) := by
  subst hK
  exact pg_tup hc h hn hst
end
/-- bounded data: at most n items in a row, at most k levels -/
def okD (n : Nat) : Nat → PyData → Bool
  | _, .none => true
  | _, .bool _ => true
  | _, .int i => decide (i.natAbs < 1000000)
  | _, .str s => decide (s.length ≤ 1000) && s.cps.toList.all fun c => decide (c < 128)
  | k + 1, .list ds => decide (ds.length ≤ n) && ds.all (okD n k)
  | k + 1, .tuple ds => decide (ds.length ≤ n) && ds.all (okD n k)
  | _, _ => false
theorem okD_mono {n m : Nat} (h : n ≤ m) : ∀ {k l : Nat} {d : PyData}, k ≤ l → okD n k d = true → okD m l d = true := by
  intro k
  induction k with
  | zero => intro l d _ e; cases d <;> cases l <;> simp_all [okD]
  | succ k ih =>
    intro l d hk e
    obtain ⟨l, rfl⟩ : ∃ j, l = j + 1 := ⟨l - 1, by omega⟩
    cases d with
    | list ds =>
      simp only [okD, Bool.and_eq_true, decide_eq_true_eq, List.all_eq_true] at e ⊢
      exact ⟨Nat.le_trans e.1 h, fun x hx => ih (by omega) (e.2 x hx)⟩
    | tuple ds =>
      simp only [okD, Bool.and_eq_true, decide_eq_true_eq, List.all_eq_true] at e ⊢
      exact ⟨Nat.le_trans e.1 h, fun x hx => ih (by omega) (e.2 x hx)⟩
    | _ => simp_all [okD]
theorem okD_shape {n : Nat} : ∀ {k : Nat} {d : PyData}, okD n k d = true → d.canLay0 = true ∧ d.depth ≤ k := by
  intro k
  induction k with
  | zero =>
    intro d e
    cases d with
    | str s =>
      simp only [okD, Bool.and_eq_true, decide_eq_true_eq, List.all_eq_true] at e
      refine ⟨?_, by simp [PyData.depth]⟩
      simp only [PyData.canLay0, PyData.strOk]
      rw [← Array.all_toList, List.all_eq_true]
      intro c hc
      have := e.2 c hc
      exact decide_eq_true (by omega)
    | _ => simp_all [okD, PyData.canLay0, PyData.depth]
  | succ k ih =>
    intro d e
    have key : ∀ ds : List PyData, (∀ x ∈ ds, okD n k x = true) → PyData.canLayAll0 ds = true ∧ PyData.depthAll ds ≤ k := by
      intro ds
      induction ds with
      | nil => intro _; exact ⟨rfl, Nat.zero_le _⟩
      | cons x r ihr =>
        intro h
        obtain ⟨a1, a2⟩ := ih (h x (List.mem_cons.mpr (.inl rfl)))
        obtain ⟨b1, b2⟩ := ihr fun y hy => h y (List.mem_cons.mpr (.inr hy))
        simp only [PyData.canLayAll0, PyData.depthAll, a1, b1, Bool.and_self, true_and]
        omega
    cases d with
    | str s =>
      simp only [okD, Bool.and_eq_true, decide_eq_true_eq, List.all_eq_true] at e
      refine ⟨?_, by simp [PyData.depth]⟩
      simp only [PyData.canLay0, PyData.strOk]
      rw [← Array.all_toList, List.all_eq_true]
      intro c hc
      have := e.2 c hc
      exact decide_eq_true (by omega)
    | list ds =>
      simp only [okD, Bool.and_eq_true, decide_eq_true_eq, List.all_eq_true] at e
      obtain ⟨a1, a2⟩ := key ds e.2
      exact ⟨by simpa [PyData.canLay0] using a1, by simp only [PyData.depth]; omega⟩
    | tuple ds =>
      simp only [okD, Bool.and_eq_true, decide_eq_true_eq, List.all_eq_true] at e
      obtain ⟨a1, a2⟩ := key ds e.2
      exact ⟨by simpa [PyData.canLay0] using a1, by simp only [PyData.depth]; omega⟩
    | _ => simp_all [okD, PyData.canLay0, PyData.depth]
/-- bounded data can be compared at any depth -/
theorem Dh.dp {K : PySem.W.Frag} {H : Hp} {n : Nat} : ∀ {k : Nat} {v : V} {d : PyData}, Dh H v d → okD n k d = true → Dp K H v d := by
  intro k
  induction k with
  | zero =>
    intro v d h ho
    cases h with
    | non => exact .non
    | bl b => exact .bl b
    | int i => exact .int i
    | str x => exact .str x
    | lst h a => simp [okD] at ho
    | tup h a => simp [okD] at ho
    | dk h => simp [okD] at ho
  | succ k ih =>
    intro v d h ho
    have key : ∀ (ds : List PyData) (vs : List V), DhAll H vs ds → (∀ x ∈ ds, okD n k x = true) → DpAll K H vs ds := by
      intro ds
      induction ds with
      | nil => intro vs a _; cases a; exact .nil
      | cons x r ihr =>
        intro vs a hx
        cases a with
        | cons h a => exact .cons (ih h (hx x (List.mem_cons.mpr (.inl rfl)))) (ihr _ a fun y hy => hx y (List.mem_cons.mpr (.inr hy)))
    cases h with
    | non => exact .non
    | bl b => exact .bl b
    | int i => exact .int i
    | str x => exact .str x
    | lst h a =>
      simp only [okD, Bool.and_eq_true, decide_eq_true_eq, List.all_eq_true] at ho
      exact .lst (.inl (.inl h)) (key _ _ a ho.2)
    | tup h a =>
      simp only [okD, Bool.and_eq_true, decide_eq_true_eq, List.all_eq_true] at ho
      exact .tup (.inl (.inl h)) (key _ _ a ho.2)
    | dk h => simp [okD] at ho
theorem okD_shaped {n k : Nat} {d : PyData} (h : okD n k d = true) (hk : k ≤ 64) : SeqAt.shaped d = true := by
  obtain ⟨a, b⟩ := okD_shape h
  simp only [SeqAt.shaped, a, Bool.true_and, decide_eq_true_eq]
  omega
theorem eqv_refl {n : Nat} : ∀ {k : Nat} {d : PyData}, okD n k d = true → PyData.eqv d d = true := by
  intro k
  induction k with
  | zero =>
    intro d e
    cases d <;> simp_all [okD, PyData.eqv]
  | succ k ih =>
    intro d e
    have key : ∀ ds : List PyData, (∀ x ∈ ds, okD n k x = true) → PyData.eqvAll ds ds = true := by
      intro ds
      induction ds with
      | nil => intro _; rfl
      | cons x r ihr =>
        intro h
        show (PyData.eqv x x && PyData.eqvAll r r) = true
        rw [ih (h x (List.mem_cons.mpr (.inl rfl))), ihr fun y hy => h y (List.mem_cons.mpr (.inr hy))]
        rfl
    cases d with
    | list ds =>
      simp only [okD, Bool.and_eq_true, decide_eq_true_eq, List.all_eq_true] at e
      exact key ds e.2
    | tuple ds =>
      simp only [okD, Bool.and_eq_true, decide_eq_true_eq, List.all_eq_true] at e
      exact key ds e.2
    | _ => simp_all [okD, PyData.eqv]
end Sn

/-! ## What the scanner of a line computes, in plain terms: a parser over the line's signs -/
namespace Sn
open PySem PySem.Spec PyProof.Rows L2 TL
abbrev Ps (α : Type) := List Nat → Nat → Option (α × Nat)
/-- these signs stand at i -/
def pTake (s : Str) (L : List Nat) (i : Nat) : Bool := decide ((L.drop i).take s.length = tl s)
def pSigns (L : List Nat) (i : Nat) : List Nat := (L.drop i).takeWhile fun c => decide (c ∈ tl sgnS)
def pWord : Ps Str := fun L i => if (pSigns L i).length ≤ 8 then some (⟨(pSigns L i).toArray⟩, i + (pSigns L i).length) else none
def pName : Ps Str := fun L i => (pWord L i).bind fun r => if isN r.1 = true then some r else none
/-- signs, then p -/
def pAft (s : Str) {α : Type} (p : Ps α) : Ps α := fun L i => if pTake s L i = true then p L (i + s.length) else none
/-- p, then signs -/
def pBef {α : Type} (p : Ps α) (s : Str) : Ps α := fun L i => (p L i).bind fun r => if pTake s L r.2 = true then some (r.1, r.2 + s.length) else none
def pMap {α β : Type} (f : α → β) (p : Ps α) : Ps β := fun L i => (p L i).map fun r => (f r.1, r.2)
def pQuoted (a b : Str) : Ps Str := pBef (pAft a pWord) b
def pPart : Ps PyData := fun L i => if pTake "\"" L i = true then pMap (fun w => .tuple [.str "text", .str w]) (pQuoted "\"" "\"") L i else pMap (fun w => .tuple [.str "name", .str w]) pName L i
/-- parts with ' + ' between -/
def pParts : Nat → Ps (List PyData)
  | 0 => fun _ _ => none
  | f + 1 => fun L i => (pPart L i).bind fun r => if pTake " + " L r.2 = true then (pParts f L (r.2 + 3)).map fun q => (r.1 :: q.1, q.2) else some ([r.1], r.2)
def pExpr : Ps PyData := fun L i => (pParts (L.length + 1) L i).bind fun r => if r.1.length ≤ 4 then some (.tuple r.1, r.2) else none
def pBuilt : Ps PyData := pBef (pAft "[" pExpr) "]"
def pTarget : Ps PyData := fun L i => if pTake "[" L i = true then pMap (fun e => .tuple [.str "built", e]) pBuilt L i
  else (pName L i).bind fun r => if pTake "[" L r.2 = true then pMap (fun e => .tuple [.str "table", .str r.1, e]) pBuilt L r.2 else some (.tuple [.str "name", .str r.1], r.2)
/-- items with ', ' between, up to the end -/
def pList {α : Type} (p : Ps α) (e : Str) : Nat → Bool → Ps (List α)
  | 0, _ => fun _ _ => none
  | f + 1, first => fun L i => if pTake e L i = true then some ([], i + e.length)
      else (if first = true then p L i else pAft ", " p L i).bind fun r => (pList p e f false L r.2).map fun q => (r.1 :: q.1, q.2)
def pListed {α : Type} (p : Ps α) (e : Str) : Ps (List α) := fun L i => pList p e (L.length + 1) true L i
def pCall (into : PyData) : Ps PyData := fun L i => (pTarget L i).bind fun r => (pAft "(" (pListed pExpr ")") L r.2).bind fun q => if q.1.length ≤ 3 then some (.tuple [.str "call", into, r.1, .tuple q.1], q.2) else none
def pLet : Ps PyData := fun L i => (pBef pName " = " L i).bind fun r =>
  if L.drop r.2 = tl ("ask" : Str) then some (.tuple [.str "ask", .str r.1], r.2 + 3)
  else if pTake "call " L r.2 = true then pCall (.str r.1) L (r.2 + 5) else pMap (fun e => .tuple [.str "let", .str r.1, e]) pExpr L r.2
def pChoice : Ps PyData := fun L i => if pTake "there " L i = true then pMap (fun e => .tuple [.str "there", e]) (pBef pBuilt ":") L (i + 6)
  else (pExpr L i).bind fun r => pMap (fun w => .tuple [.str "if", r.1, .str w]) (pQuoted " == \"" "\":") L r.2
def pStmt : Ps PyData := fun L i =>
  if pTake "let " L i = true then pLet L (i + 4)
  else if pTake "call " L i = true then pCall .none L (i + 5)
  else if pTake "if " L i = true then pChoice L (i + 3)
  else if pTake "each " L i = true then (pName L (i + 5)).bind fun r => pMap (fun w => .tuple [.str "each", .str r.1, .str w]) (pQuoted " in \"" "\":") L r.2
  else if pTake "return " L i = true then pMap (fun e => .tuple [.str "return", e]) pExpr L (i + 7)
  else if pTake "try:" L i = true then some (.tuple [.str "try"], i + 4)
  else if pTake "fail" L i = true then some (.tuple [.str "fail"], i + 4) else none
def pUsed : Ps PyData := fun L i => (pBef pName "." L i).bind fun r =>
  if pTake "*" L r.2 = true then some (.tuple [.str "star", .str r.1], r.2 + 1)
  else (pName L r.2).bind fun q => if pTake " as " L q.2 = true then (pName L (q.2 + 4)).bind fun t => if t.1 = q.1 then none else some (.tuple [.str "use", .str t.1, .str r.1, .str q.1], t.2)
    else some (.tuple [.str "use", .str q.1, .str r.1, .str q.1], q.2)
/-- names with a blank between -/
def pNames : Nat → Ps (List Str)
  | 0 => fun _ _ => none
  | f + 1 => fun L i => (pName L i).bind fun r => if pTake " " L r.2 = true then (pNames f L (r.2 + 1)).map fun q => (r.1 :: q.1, q.2) else some ([r.1], r.2)
def pOffered : Ps PyData := fun L i => (pNames (L.length + 1) L i).bind fun r => if r.1.length ≤ 12 ∧ r.1.Nodup then some (.tuple [.str "offer", .tuple (r.1.map PyData.str)], r.2) else none
/-- pairs, a blank ahead of each -/
def pPairs : Nat → Ps (List (Str × Str))
  | 0 => fun _ _ => none
  | f + 1 => fun L i => if pTake " " L i = true then (pBef pWord "=" L (i + 1)).bind fun r => (pName L r.2).bind fun q => (pPairs f L q.2).map fun t => ((r.1, q.1) :: t.1, t.2) else some ([], i)
def pKeyed : Ps PyData := fun L i => (pBef pName ":" L i).bind fun r => (pPairs (L.length + 1) L r.2).bind fun q =>
  if 1 ≤ q.1.length ∧ q.1.length ≤ 12 ∧ (∀ x ∈ q.1, x.1 ≠ "") ∧ (q.1.map (·.1)).Nodup then some (.tuple [.str "table", .str r.1, .tuple (q.1.map fun x => .tuple [.str x.1, .str x.2])], q.2) else none
def pDefined : Ps PyData := fun L i => (pName L i).bind fun r => (pAft "(" (pListed pName "):") L r.2).bind fun q =>
  if q.1.length ≤ 3 ∧ q.1.Nodup then some (.tuple [.str "def", .str r.1, .tuple (q.1.map PyData.str)], q.2) else none
def pItem : Ps PyData := fun L i =>
  if pTake "use " L i = true then pUsed L (i + 4)
  else if pTake "offer " L i = true then pOffered L (i + 6)
  else if pTake "table " L i = true then pKeyed L (i + 6)
  else if pTake "def " L i = true then pDefined L (i + 4)
  else if pTake "entry " L i = true then pMap (fun w => .tuple [.str "entry", .str w]) pName L (i + 6)
  else if pTake "set " L i = true then (pName L (i + 4)).bind fun r => pMap (fun w => .tuple [.str "set", .str r.1, .str w]) (pQuoted " = \"" "\"") L r.2
  else none
end Sn

/-! ## Own errors whose __init__ says super().__init__(text) and keeps its arguments -/
namespace Sn
open PySem PySem.Spec PyProof.Rows L2
/-- super().__init__(m) -/
abbrev supSt (m : Str) (j : Nat) (p0 p1 p2 p3 p4 p5 : Pos) : Stmt := .Expr (.Call (.Attribute (.Call (.Name "super" p0) [] [] p1) "__init__" p2) [.Constant (.str m) j p3] [] p4) p5
/-- how its call is evaluated: the places tell nothing else -/
def SupEv (m : Str) (j : Nat) (p0 p1 p2 p3 p4 : Pos) : Prop := ∀ env : Env, eval (.Call (.Attribute (.Call (.Name "super" p0) [] [] p1) "__init__" p2) [.Constant (.str m) j p3] [] p4) env = (do
  let ov ← attributeBase (.Call (.Name "super" p0) [] [] p1) "__init__" env (eval (.Call (.Name "super" p0) [] [] p1) env)
  standAt p2.atName
  let (f, first) ← holding [ov] (getMethod ov "__init__" (do return (← importBound (.Call (.Name "super" p0) [] [] p1) env).getD true))
  callWith p4 f first (backTo p4 (starEach [.Constant (.str m) j p3] env)) [])
/-- self.f = g -/
abbrev keepSt (f g : Str) (q1 q2 q3 q4 : Pos) : Stmt := .Assign [.Attribute (.Name "self" q1) f q2] (.Name g q3) q4
/-- what the written part says of the __init__ at fI of the class at C -/
structure SupFn (P : Program) (K : PySem.W.Frag) (C fI : Addr) (st : Stmt) (qual : Str) : Prop where
  fn : ∃ (oc kV doc pm ct ccl cl : Value) (od an cdd cld : Option Addr) (cda cc : Addr) (osl ccs csl : Array (Option Value)) (vs : Array Value) (file : Str) (tf : Tok),
    K.lookup fI = some ⟨oc, od, .func (PySem.W.ksFn "__init__" qual (defArgs st) (defBody st) (defScope st) .none kV doc pm an (.ref cda) ct cc), osl⟩ ∧ PySem.W.codeIn K (.ref cda) qual = true ∧
    K.lookup cda = some ⟨ccl, cdd, .fields vs, ccs⟩ ∧ vs[2]? = some (.str file tf) ∧ ((P.main.file : Str) == file) = true ∧ K.lookup cc = some ⟨cl, cld, .cell (some (.ref C)), csl⟩
  top : (P.main.scope.names.lookup ("super" : Str)).isSome = false
  sup : PySem.W.ks_superIn K C C "__init__" = some (some (.builtin "ValueError.__init__"))
  self : PySem.W.mroIn K C (.ref C) = some true
  opq : PySem.W.nsIn K cStatics "thirdparty.any" = some none
  ve : PySem.W.subIn K (.ref C) (.type "ValueError") = some true
/-- what the text of such an __init__ says -/
structure SupTxt (st : Stmt) : Prop where
  ks : (defScope st).names.lookup ("super" : Str) = some .globalImplicit
  kc : (defScope st).names.lookup ("__class__" : Str) = some .free
  kf : (defScope st).names.lookup ("self" : Str) = some .local
  nc : ∀ x ∈ (defScope st).names, x.2 ≠ .cell
  hp : ∃ ar : Arg, ((defArgs st).posonlyargs ++ (defArgs st).args).head? = some ar ∧ ar.arg = "self"
  co : (defScope st).isCoroutine = false
  gen : (defScope st).isGenerator = false
  kind : (defScope st).kind = .function
section
variable {prog : Program} {w : World} {A : Around} {E : Value → Shared → Prop} {R : Result → Shared → Prop} {s : Shared} {K : PySem.W.Frag} {mg mb : Str → Option Value} {C fI : Addr} {st : Stmt} {qual : Str}
open PySem.W PySem.Calls PySem.HandSPX
theorem cls_of (O : OexC K C) : ∃ cd : ClassData, clsIn K C = some cd ∧ refsVE cd.mro = true ∧ cd.hasDict = true := by
  obtain ⟨nm, q, N, bs, bm, sn, sub, ab, col, dd, k0, k1, k2, k3, k5, hC, hbm⟩ := O.cls
  exact ⟨{ name := nm, bases := bs, mro := .ref C :: bm, ns := N, qualname := q, hasDict := true, slotNames := sn, subclasses := sub, abstract := ab, collection := col, hasDel := false }, by unfold clsIn; rw [hC] <;> rfl, hbm, rfl⟩
/-- super().__init__(m): the args are laid anew, nothing else is told -/
theorem sup_step {body : List Stmt} {m : Str} {j : Nat} {p0 p1 p2 p3 p4 p5 : Pos} {ml : Str → Option Value} {L x t0 cda cc : Addr} {oc kV doc pm ct ccl cl : Value} {od an cdd cld : Option Addr} {osl ccs csl : Array (Option Value)} {vs : Array Value} {file : Str} {tf : Tok} {Q : Flow → Shared → Prop}
    (hev : SupEv m j p0 p1 p2 p3 p4) (O : OexC K C) (S : SupFn prog K C fI st qual) (T : SupTxt st)
    (hf : K.lookup fI = some ⟨oc, od, .func (ksFn "__init__" qual (defArgs st) (defBody st) (defScope st) .none kV doc pm an (.ref cda) ct cc), osl⟩)
    (hcode : K.lookup cda = some ⟨ccl, cdd, .fields vs, ccs⟩) (hvs : vs[2]? = some (.str file tf)) (hfile : ((prog.main.file : Str) == file) = true) (hcell : K.lookup cc = some ⟨cl, cld, .cell (some (.ref C)), csl⟩)
    (X : K.In s.heap) (G : s.heap.Ns mainGlobals mg) (hmg : mg "super" = none) (Bn : s.heap.Ns builtinsNs mb) (hb : mb "super" = some (.type "super"))
    (hn : s.heap.Ns L ml) (hv : ml "self" = some (.ref x)) (hx : s.heap.get? x = some (excO C t0)) (hnx : K.lookup x = none)
    (h : ∀ h' tk t1, (∀ b o, b ≠ x → s.heap.get? b = some o → h'.get? b = some o) → h'.get? x = some (excO C t1) → Q .next { s with heap := h', toks := tk }) :
    PySem.wpAt (model prog w) A (.func body (ksEnv qual (defScope st) L fI (.ref cda) cc)) (exec (supSt m j p0 p1 p2 p3 p4 p5) (ksEnv qual (defScope st) L fI (.ref cda) cc)) Q E s := by
  obtain ⟨cd, hcd, hmro, hdct⟩ := cls_of O
  obtain ⟨ar, har, hself⟩ := T.hp
  obtain ⟨nm, q, N, bs, bm, sn, sub, ab, col, dd, k0, k1, k2, k3, k5, hC, hbm⟩ := O.cls
  obtain ⟨oD, hD1, hD2⟩ : ∃ oD, s.heap.get? C = some oD ∧ oD.data = .cls cd := by
    unfold clsIn at hcd
    split at hcd
    · rename_i c d cd' sl ho
      cases hcd
      exact ⟨_, X _ _ ho, rfl⟩
    · cases hcd
  have I : InstAt s.heap x (excO C t0) C none := ⟨hx, rfl, rfl, trivial⟩
  obtain ⟨hh, g, d, t, os⟩ := s
  refine ks_wpAt_Expr_any (ks_wpAt_MethodCall (he := hev _) ?_) (hi := by simp [interactive, T.kind])
  refine ks_wpAt_super_base (env := ksEnv qual (defScope st) L fI (.ref cda) cc) T.ks T.kc (by decide) rfl (X _ _ hf) rfl har rfl (X _ _ hcode) rfl hvs hfile S.top ?_
  refine ks_loadName_global T.kind T.ks (loadGlobal_builtin (env := ksEnv qual (defScope st) L fI (.ref cda) cc) G hmg Bn hb ⟨rfl, ?_⟩)
  refine wpAny_loadName_free T.kind T.kc rfl ⟨_, X _ _ hcell, rfl⟩ ?_
  rw [hself]
  refine wpAny_loadName_local T.kind T.kf hn hv ?_
  refine ks_wpAny_isType_cls hD1 hD2 ⟨rfl, ?_⟩
  refine ks_wpAny_call_super hD1 hD2 hx rfl (fun c e => by cases e) (looks_mroIn X S.self) (fun h1 e1 k1 => ?_)
  have X1 : K.In h1 := X.keeps k1
  have hm := S.sup
  unfold ks_superIn at hm
  rw [hcd] at hm
  have I1 : InstAt h1 x (excO C t0) C none := ⟨k1 _ _ hx, rfl, rfl, trivial⟩
  have hI : Looks (model prog w) h1 (isInstance (.ref x) (.type "ValueError")) true := I1.type.andThen (looks_subIn X1 S.ve)
  refine kxs_getMethod kxs_ValueError e1 (looks_opaque X1 S.opq) (l₀ := cd.mro) (fun A Q E s k q => wpAny_bind ((looks_clsIn X1 hcd) A _ E s k (wpAny_pure q))) rfl X1 hm hI (ks_ne X1 I1 hcd) (by decide) ?_
  have hz1 : (h1.push (kxs_mw "ValueError.__init__" x)).get? h1.objs.size = some (kxs_mw "ValueError.__init__" x) := Heap.get?_push_size _ rfl
  have hx1 : (h1.push (kxs_mw "ValueError.__init__" x)).get? x = some (excO C t0) := Heap.get?_push_of_some _ (k1 _ _ hx)
  have hC1 := Heap.get?_push_of_some (kxs_mw "ValueError.__init__" x) (X1 _ _ hC)
  have kk : ∀ b o, hh.get? b = some o → (h1.push (kxs_mw "ValueError.__init__" x)).get? b = some o := fun b o e => Heap.get?_push_of_some _ (k1 b o e)
  generalize h1.push (kxs_mw "ValueError.__init__" x) = h2 at hz1 hx1 hC1 kk
  refine kxs_callWith (i := "ValueError.__init__") (x := x) rfl ?_
  refine evalArgs_plain (spliced_cons (Calls.Constant_str (k := j) (pos := p3) (spliced_nil ⟨hz1, ?_⟩)))
  refine wpAny_call (codeAny_of_tree ?_)
  show wpAny _ A.in1 (callAny (.ref h1.objs.size) ⟨[Value.str m _], []⟩) _ _ _
  simp only [callAny]
  refine wpAny_bind (wpAny_load hz1 ?_)
  simp only [kxs_mw, show (Value.type "method-wrapper" == Value.type "method" || Value.type "method-wrapper" == Value.type "builtin_function_or_method" || Value.type "method-wrapper" == Value.type "method-wrapper") = true by decide, if_true]
  refine KFB.if_so (by decide) ?_
  refine wpAny_bind (check_bound_init F.excBase_ValueError.toExcCallFacts hC1 hx1 rfl ?_)
  refine wpAny_bind (wpAny_pure (wpAny_pure ?_))
  refine ⟨plainId_quiet F.excBase_ValueError.init.plain _, codeAny_builtin F.excBase_ValueError.initEntry ?_⟩
  refine exc_init_tree (cls := .ref C) (t0 := t0) (dv := none) (c2 := .none) (c3 := .none) (b4 := .bool false) hx1 (by rw [sizeLine_eq]; show 1 ≤ 16777216; decide) fun h3 k3 e3 t3 => ?_
  exact h h3 _ _ (fun b o hb e => k3 b o hb (kk b o e)) e3
theorem ldK {M : Model} {s : Shared} {name : Str} {scope : Scope} {L a cc : Addr} {cd : Value} {m : Str → Option Value} {x : Str} {pos : Pos} {v : Value} {Q : Value → Shared → Prop} {A : Around} {E : Value → Shared → Prop} (hn : s.heap.Ns L m) (hv : m x = some v) (h : Q v s)
    (hk : scope.kind = .function) (hl : scope.names.lookup x = some .local) (hd : (x == ("__debug__" : Str)) = false) : wpAny M A (eval (.Name x pos) (ksEnv name scope L a cd cc)) Q E s := wpAny_Name (wpAny_loadName_local hk hl hn hv h) hd
theorem kept_but {h h' : Heap} {x : Addr} (X : K.In h) (hx : K.lookup x = none) (k : ∀ b o, b ≠ x → h.get? b = some o → h'.get? b = some o) : K.In h' := fun a o e =>
  k a o (fun z => by rw [z, hx] at e; cases e) (X a o e)
/-- what such an __init__ leaves of a fresh error at x: its dict at dx -/
structure ErrEnd (h h' : Heap) (x C dx t1 : Addr) (ms : Str → Option Value) : Prop where
  keep : ∀ b o, b ≠ x → h.get? b = some o → h'.get? b = some o
  obj : h'.get? x = some { cls := .ref C, dict := some dx, data := .fields #[.ref t1, .none, .none, .none, .bool false, .none] }
  dbig : h.objs.size ≤ dx
  dne : dx ≠ x
  ns : h'.Ns1 dx ms
/-- the text: super().__init__(m), self.f = f -/
structure Txt1 (st : Stmt) (f : Str) : Prop where
  T : SupTxt st
  kf : (defScope st).names.lookup f = some .local
  df : (f == ("__debug__" : Str)) = false
  nf : f ≠ "self"
  bd : ∃ (m : Str) (j : Nat) (p0 p1 p2 p3 p4 p5 q1 q2 q3 q4 : Pos), defBody st = [supSt m j p0 p1 p2 p3 p4 p5, keepSt f f q1 q2 q3 q4] ∧ SupEv m j p0 p1 p2 p3 p4
theorem err_init1 {f : Str} (O : OexC K C) (S : SupFn prog K C fI st qual) (T : Txt1 st f) (hno : findIn K (.ref C) f = some none) {x t0 : Addr} {v : Value} {args : Args}
    (hb : ∀ (kV doc pm : Value) (an : Option Addr) (cdv ct : Value) (cc : Addr), BindsTo s (ksFn "__init__" qual (defArgs st) (defBody st) (defScope st) .none kV doc pm an cdv ct cc) args [("self", .ref x), (f, v)])
    (X : K.In s.heap) (G : s.heap.Ns mainGlobals mg) (hmg : mg "super" = none) (Bn : s.heap.Ns builtinsNs mb) (hbb : mb "super" = some (.type "super"))
    (hlim : s.heap.NoLimit) (hx : s.heap.get? x = some (excO C t0)) (hnx : K.lookup x = none) (hroom : A.depth < recursionLimit)
    (hq : ∀ h' tk dx t1, ErrEnd s.heap h' x C dx t1 (fun y => if y = f then some v else none) → R (.ok (.ret .none)) { s with heap := h', toks := tk }) :
    codeAny (model prog w) A (.call (.ref fI) args) R s := by
  obtain ⟨oc, kV, doc, pm, ct, ccl, cl, od, an, cdd, cld, cda, cc, osl, ccs, csl, vs, file, tf, hf, hcd, hcode, hvs, hfile, hcell⟩ := S.fn
  obtain ⟨m, j, p0, p1, p2, p3, p4, p5, q1, q2, q3, q4, ebody, hev⟩ := T.bd
  obtain ⟨cd, hcls, hmro, hdct⟩ := cls_of O
  refine ks_codeAny_call_defAt (fd := ksFn "__init__" qual (defArgs st) (defBody st) (defScope st) .none kV doc pm an (.ref cda) ct cc) (body := defBody st) (binds := [("self", .ref x), (f, v)]) hroom (X _ _ hf) rfl hlim (codeRec_of X hcd) rfl (hb kV doc pm an (.ref cda) ct cc)
    T.T.nc ?_ (fun h1 hn k1 => ?_) T.T.co T.T.gen T.T.kind
  · intro y hy
    rcases List.mem_cons.mp hy with rfl | hy
    · exact T.T.kf
    · rw [List.mem_singleton.mp hy]; exact T.kf
  show PySem.wpAt _ (A.deeper (ksEnv qual (defScope st) s.heap.objs.size fI (.ref cda) cc)) (.func (defBody st) (ksEnv qual (defScope st) s.heap.objs.size fI (.ref cda) cc)) (execs (defBody st) (ksEnv qual (defScope st) s.heap.objs.size fI (.ref cda) cc)) _ _ _
  generalize hA : A.deeper (ksEnv qual (defScope st) s.heap.objs.size fI (.ref cda) cc) = A1
  generalize hcode2 : Code.func (defBody st) (ksEnv qual (defScope st) s.heap.objs.size fI (.ref cda) cc) = code
  rw [ebody]
  have l1 : (([("self", .ref x), (f, v)] : List (Str × Value)).reverse.lookup ("self" : Str)) = some (Value.ref x) := by
    show List.lookup _ [(f, v), ("self", .ref x)] = _
    have e : (("self" : Str) == f) = false := by simpa using fun e => T.nf e.symm
    simp [List.lookup, e]
  have l2 : (([("self", .ref x), (f, v)] : List (Str × Value)).reverse.lookup f) = some v := by
    show List.lookup _ [(f, v), ("self", .ref x)] = _
    simp [List.lookup]
  refine ks_wpAt_execs_cons ?_
  rw [← hcode2]
  have X1 : K.In h1 := X.keeps k1
  refine sup_step (s := { s with heap := h1, toks := s.toks + 2 }) hev O S T.T hf hcode hvs hfile hcell X1 (G.keeps k1) hmg (Bn.keeps k1) hbb hn l1 (k1 _ _ hx) hnx fun h2 tk2 t1 k2 hx2 => ?_
  have X2 : K.In h2 := kept_but X1 hnx k2
  have hxL : s.heap.objs.size ≠ x := Nat.ne_of_gt (Heap.lt_size hx)
  have hn2 : h2.Ns s.heap.objs.size (fun y => ([("self", .ref x), (f, v)] : List (Str × Value)).reverse.lookup y) := by
    obtain ⟨o, es, ep, ho, r⟩ := hn
    exact ⟨o, es, ep, k2 _ _ hxL ho, r⟩
  refine wpAt_of_wpAny (wpAny_execs_cons (plainObj_wpAny_Assign_Attribute ?_))
  refine ldK hn2 l2 (ldK hn2 l1 ?_ T.T.kind T.T.kf (by decide)) T.T.kind T.kf T.df
  refine set_plain X2 (ox := excO C t1) (od := none) ⟨hx2, rfl, rfl, trivial⟩ O.sa ?_
  refine exc_osa X2 hx2 hcls hmro hdct hno (fun h3 tk3 dx k3 dn dne hx3 hn3 => ?_)
  refine wpAny_execs_nil (hq h3 tk3 dx t1 ⟨fun b o hb e => k3 b o hb (k2 b o hb (k1 b o e)), hx3, ?_, dne, hn3⟩)
  have z : s.heap.objs.size < h2.objs.size := hn2.lt
  exact Nat.le_of_lt (Nat.lt_of_lt_of_le z dn)
/-- the text: super().__init__(m), self.f = f, self.g = g -/
structure Txt2 (st : Stmt) (f g : Str) : Prop where
  T : SupTxt st
  kf : (defScope st).names.lookup f = some .local
  kg : (defScope st).names.lookup g = some .local
  df : (f == ("__debug__" : Str)) = false
  dg : (g == ("__debug__" : Str)) = false
  nf : f ≠ "self"
  ng : g ≠ "self"
  fg : f ≠ g
  bd : ∃ (m : Str) (j : Nat) (p0 p1 p2 p3 p4 p5 q1 q2 q3 q4 r1 r2 r3 r4 : Pos), defBody st = [supSt m j p0 p1 p2 p3 p4 p5, keepSt f f q1 q2 q3 q4, keepSt g g r1 r2 r3 r4] ∧ SupEv m j p0 p1 p2 p3 p4
theorem err_init2 {f g : Str} (O : OexC K C) (S : SupFn prog K C fI st qual) (T : Txt2 st f g) (hno : findIn K (.ref C) f = some none) (hno2 : findIn K (.ref C) g = some none) {x t0 : Addr} {v u : Value} {args : Args}
    (hb : ∀ (kV doc pm : Value) (an : Option Addr) (cdv ct : Value) (cc : Addr), BindsTo s (ksFn "__init__" qual (defArgs st) (defBody st) (defScope st) .none kV doc pm an cdv ct cc) args [("self", .ref x), (f, v), (g, u)])
    (X : K.In s.heap) (G : s.heap.Ns mainGlobals mg) (hmg : mg "super" = none) (Bn : s.heap.Ns builtinsNs mb) (hbb : mb "super" = some (.type "super"))
    (hlim : s.heap.NoLimit) (hx : s.heap.get? x = some (excO C t0)) (hnx : K.lookup x = none) (hroom : A.depth < recursionLimit)
    (hq : ∀ h' tk dx t1, ErrEnd s.heap h' x C dx t1 (fun y => if y = g then some u else if y = f then some v else none) → R (.ok (.ret .none)) { s with heap := h', toks := tk }) :
    codeAny (model prog w) A (.call (.ref fI) args) R s := by
  obtain ⟨oc, kV, doc, pm, ct, ccl, cl, od, an, cdd, cld, cda, cc, osl, ccs, csl, vs, file, tf, hf, hcd, hcode, hvs, hfile, hcell⟩ := S.fn
  obtain ⟨m, j, p0, p1, p2, p3, p4, p5, q1, q2, q3, q4, r1, r2, r3, r4, ebody, hev⟩ := T.bd
  obtain ⟨cd, hcls, hmro, hdct⟩ := cls_of O
  refine ks_codeAny_call_defAt (fd := ksFn "__init__" qual (defArgs st) (defBody st) (defScope st) .none kV doc pm an (.ref cda) ct cc) (body := defBody st) (binds := [("self", .ref x), (f, v), (g, u)]) hroom (X _ _ hf) rfl hlim (codeRec_of X hcd) rfl (hb kV doc pm an (.ref cda) ct cc)
    T.T.nc ?_ (fun h1 hn k1 => ?_) T.T.co T.T.gen T.T.kind
  · intro y hy
    rcases List.mem_cons.mp hy with rfl | hy
    · exact T.T.kf
    rcases List.mem_cons.mp hy with rfl | hy
    · exact T.kf
    · rw [List.mem_singleton.mp hy]; exact T.kg
  show PySem.wpAt _ (A.deeper (ksEnv qual (defScope st) s.heap.objs.size fI (.ref cda) cc)) (.func (defBody st) (ksEnv qual (defScope st) s.heap.objs.size fI (.ref cda) cc)) (execs (defBody st) (ksEnv qual (defScope st) s.heap.objs.size fI (.ref cda) cc)) _ _ _
  generalize hA : A.deeper (ksEnv qual (defScope st) s.heap.objs.size fI (.ref cda) cc) = A1
  generalize hcode2 : Code.func (defBody st) (ksEnv qual (defScope st) s.heap.objs.size fI (.ref cda) cc) = code
  rw [ebody]
  have l1 : (([("self", .ref x), (f, v), (g, u)] : List (Str × Value)).reverse.lookup ("self" : Str)) = some (Value.ref x) := by
    show List.lookup _ [(g, u), (f, v), ("self", .ref x)] = _
    have e : (("self" : Str) == f) = false := by simpa using fun e => T.nf e.symm
    have e' : (("self" : Str) == g) = false := by simpa using fun e => T.ng e.symm
    simp [List.lookup, e, e']
  have l2 : (([("self", .ref x), (f, v), (g, u)] : List (Str × Value)).reverse.lookup f) = some v := by
    show List.lookup _ [(g, u), (f, v), ("self", .ref x)] = _
    have e : (f == g) = false := by simpa using T.fg
    simp [List.lookup, e]
  have l3 : (([("self", .ref x), (f, v), (g, u)] : List (Str × Value)).reverse.lookup g) = some u := by
    show List.lookup _ [(g, u), (f, v), ("self", .ref x)] = _
    simp [List.lookup]
  refine ks_wpAt_execs_cons ?_
  rw [← hcode2]
  have X1 : K.In h1 := X.keeps k1
  refine sup_step (s := { s with heap := h1, toks := s.toks + 3 }) hev O S T.T hf hcode hvs hfile hcell X1 (G.keeps k1) hmg (Bn.keeps k1) hbb hn l1 (k1 _ _ hx) hnx fun h2 tk2 t1 k2 hx2 => ?_
  have X2 : K.In h2 := kept_but X1 hnx k2
  have hxL : s.heap.objs.size ≠ x := Nat.ne_of_gt (Heap.lt_size hx)
  have keepNs : ∀ {h h' : Heap}, h.Ns s.heap.objs.size (fun y => ([("self", .ref x), (f, v), (g, u)] : List (Str × Value)).reverse.lookup y) → (∀ b o, b ≠ x → h.get? b = some o → h'.get? b = some o) →
      h'.Ns s.heap.objs.size (fun y => ([("self", .ref x), (f, v), (g, u)] : List (Str × Value)).reverse.lookup y) := fun {h h'} hn k => by
    obtain ⟨o, es, ep, ho, r⟩ := hn
    exact ⟨o, es, ep, k _ _ hxL ho, r⟩
  have hn2 := keepNs hn k2
  refine wpAt_of_wpAny (wpAny_execs_cons (plainObj_wpAny_Assign_Attribute ?_))
  refine ldK hn2 l2 (ldK hn2 l1 ?_ T.T.kind T.T.kf (by decide)) T.T.kind T.kf T.df
  refine set_plain X2 (ox := excO C t1) (od := none) ⟨hx2, rfl, rfl, trivial⟩ O.sa ?_
  refine exc_osa X2 hx2 hcls hmro hdct hno (fun h3 tk3 dx k3 dn dne hx3 hn3 => ?_)
  have X3 : K.In h3 := kept_but X2 hnx k3
  have hn3' := keepNs hn2 k3
  refine wpAny_execs_cons (plainObj_wpAny_Assign_Attribute ?_)
  refine ldK hn3' l3 (ldK hn3' l1 ?_ T.T.kind T.T.kf (by decide)) T.T.kind T.kg T.dg
  have hw : Within (fun y => if y = f then some v else none) [f] := fun y hy => by
    by_cases e : y = f
    · rw [e]; simp
    · exact absurd (if_neg e) hy
  obtain ⟨oD, _, _, hoD, _, _⟩ := hn3.count hw
  refine set_plain X3 (ox := { cls := .ref C, dict := some dx, data := .fields #[.ref t1, .none, .none, .none, .bool false, .none] }) (od := some oD) ⟨hx3, rfl, rfl, hoD⟩ O.sa ?_
  refine PySem.OEX.osa_old X3 hx3 hn3 hw (by show 1 ≤ 1000; decide) hcls hmro hdct hno2 (fun h4 tk4 k4 hn4 => ?_)
  have z : s.heap.objs.size < h2.objs.size := hn2.lt
  have dbig : s.heap.objs.size ≤ dx := Nat.le_of_lt (Nat.lt_of_lt_of_le z dn)
  have olddx : ∀ {b : Addr} {o : Obj}, s.heap.get? b = some o → b ≠ dx := fun {b o} e => Nat.ne_of_lt (Nat.lt_of_lt_of_le (Heap.lt_size e) dbig)
  exact wpAny_execs_nil (hq h4 tk4 dx t1 ⟨fun b o hb e => k4 b o (olddx e) (k3 b o hb (k2 b o hb (k1 b o e))), k4 _ _ dne.symm hx3, dbig, dne, hn4⟩)
/-- a made error -/
structure ErrMade (h h' : Heap) (e C d : Addr) (ms : Str → Option Value) : Prop where
  keep : ∀ b o, h.get? b = some o → h'.get? b = some o
  new : h.objs.size ≤ e
  obj : ∃ oe vs, h'.get? e = some oe ∧ oe.cls = .ref C ∧ oe.dict = some d ∧ oe.data = .fields vs ∧ vs[1]? = some .none
  dbig : h.objs.size ≤ d
  dne : d ≠ e
  ns : h'.Ns1 d ms
/-- C(..): the record, then the own __init__ -/
theorem err_made {us : List Value} {ms : Str → Option Value} (O : OexC K C) (iC : findIn K (.ref C) "__init__" = some (some (.ref fI))) (tI : typeIn K (.ref fI) = some (.type "function")) (X : K.In s.heap) (hus : us.length ≤ sizeLine)
    (hi : ∀ (A1 : Around) (R1 : Result → Shared → Prop) (s1 : Shared) (x t0 : Addr), A1.depth = A.depth + 1 → K.In s1.heap → (∀ b o, s.heap.get? b = some o → s1.heap.get? b = some o) → s1.heap.get? x = some (excO C t0) → K.lookup x = none →
      (∀ h' tk dx t1, ErrEnd s1.heap h' x C dx t1 ms → R1 (.ok (.ret .none)) { s1 with heap := h', toks := tk }) → codeAny (model prog w) A1 (.call (.ref fI) ⟨.ref x :: us, []⟩) R1 s1)
    (hq : ∀ h' tk e d, ErrMade s.heap h' e C d ms → R (.ok (.ret (.ref e))) { s with heap := h', toks := tk }) :
    codeAny (model prog w) A (.call (.ref C) ⟨us, []⟩) R s := by
  obtain ⟨nm, q, N, bs, bm, sn, sub, ab, col, dd, k0, k1, k2, k3, k5, hC, hbm⟩ := O.cls
  obtain ⟨hp, g, dr, tk, os⟩ := s
  have k : ∀ b o, hp.get? b = some o → ((hp.push (kdv_tup us)).push (excO C hp.objs.size)).get? b = some o := fun b o e => Heap.get?_push_of_some _ (Heap.get?_push_of_some _ e)
  have hget : ((hp.push (kdv_tup us)).push (excO C hp.objs.size)).get? (hp.objs.size + 1) = some (excO C hp.objs.size) := by heap_get
  have hnx : K.lookup (hp.objs.size + 1) = none := by
    cases e : K.lookup (hp.objs.size + 1) with
    | none => rfl
    | some o =>
      have z : hp.get? (hp.objs.size + 1) = some o := X _ _ e
      exact absurd (Nat.lt_of_succ_lt (Heap.lt_size z)) (Nat.lt_irrefl _)
  refine call_own F.excBase_ValueError (fun X => refsVE_contains X bm hbm) (X _ _ hC) (looks_findIn X iC) (fun self => bind_fn X self tI) hus ?_
  refine hi _ _ ⟨(hp.push (kdv_tup us)).push (excO C hp.objs.size), g, dr, tk, os⟩ (hp.objs.size + 1) hp.objs.size rfl (X.keeps k) k hget hnx fun h' tk' dx t1 ⟨k', hx, dn, dne, hns⟩ => ?_
  have old : ∀ b o, hp.get? b = some o → h'.get? b = some o := fun b o e => k' b o (Nat.ne_of_lt (Nat.lt_succ_of_lt (Heap.lt_size e))) (k b o e)
  have z : hp.objs.size + 1 + 1 ≤ dx := by
    have q := dn
    rw [Heap.size_push, Heap.size_push] at q
    exact q
  exact ⟨rfl, hq h' tk' (hp.objs.size + 1) dx ⟨old, Nat.le_succ _, ⟨_, _, hx, rfl, rfl, rfl, rfl⟩, Nat.le_trans (Nat.le_trans (Nat.le_succ _) (Nat.le_succ _)) z, dne, hns⟩⟩
end
/-- what the texts and the written part say of an error class with one kept argument -/
structure Err1 (P : Program) (K : PySem.W.Frag) (mg : Str → Option Value) (x : Str) (C fI : Addr) (st : Stmt) (qual f : Str) : Prop where
  g : mg x = some (.ref C)
  O : OexC K C
  S : SupFn P K C fI st qual
  T : Txt1 st f
  no : PySem.W.findIn K (.ref C) f = some none
  iC : PySem.W.findIn K (.ref C) "__init__" = some (some (.ref fI))
  tI : PySem.W.typeIn K (.ref fI) = some (.type "function")
  b : ∀ (s : Shared) (kV doc pm : Value) (an : Option Addr) (cdv ct : Value) (cc : Addr) (a v : Value), BindsTo s (PySem.W.ksFn "__init__" qual (defArgs st) (defBody st) (defScope st) .none kV doc pm an cdv ct cc) ⟨[a, v], []⟩ [("self", a), (f, v)]
  su : mg "super" = none
structure Err2 (P : Program) (K : PySem.W.Frag) (mg : Str → Option Value) (x : Str) (C fI : Addr) (st : Stmt) (qual f f2 : Str) : Prop where
  g : mg x = some (.ref C)
  O : OexC K C
  S : SupFn P K C fI st qual
  T : Txt2 st f f2
  no : PySem.W.findIn K (.ref C) f = some none
  no2 : PySem.W.findIn K (.ref C) f2 = some none
  iC : PySem.W.findIn K (.ref C) "__init__" = some (some (.ref fI))
  tI : PySem.W.typeIn K (.ref fI) = some (.type "function")
  b : ∀ (s : Shared) (kV doc pm : Value) (an : Option Addr) (cdv ct : Value) (cc : Addr) (a v u : Value), BindsTo s (PySem.W.ksFn "__init__" qual (defArgs st) (defBody st) (defScope st) .none kV doc pm an cdv ct cc) ⟨[a, v, u], []⟩ [("self", a), (f, v), (f2, u)]
  su : mg "super" = none
section
variable {X : Cx} {x f f2 qual : Str} {C fI : Addr} {st : Stmt} {e : Expr} {es : List Expr} {ta : TA} {p pos : Pos} {k : Nat}
theorem relO_one {f : Str} {v : V} {v' : Value} (r : RelV v v') (y : Str) : RelO (List.lookup y [(f, v)]) (if y = f then some v' else none) := relO_put (fs := []) (mA := fun _ => none) r (fun _ => True.intro) y
theorem relO_two {f g : Str} {v u : V} {v' u' : Value} (r : RelV v v') (q : RelV u u') (y : Str) : RelO (List.lookup y [(g, u), (f, v)]) (if y = g then some u' else if y = f then some v' else none) := relO_put (fs := [(f, v)]) q (relO_one r) y
/-- the end of C(..): the error is in the air, its dict is tracked -/
theorem mk_err {pins : List (Addr × Obj)} {σ : L2.St} {H1 : Hp} {Q : XK} {hp h' : Heap} {g : Array GenState} {dr : Drawn} {tk tk' : Nat} {os : OsState} {er d : Addr} {ms : Str → Option Value} {fs : List (Str × V)} (O : OexC X.K C) (I1 : Inv X pins σ H1 ⟨hp, g, dr, tk, os⟩)
    (M : ErrMade hp h' er C d ms) (rel : ∀ y, RelO (List.lookup y fs) (ms y)) (q1 : ∀ d, H1 d = none → Q (.ref C) (some d) (upd H1 d (.xd fs))) : MkP X pins σ Q (.ref er) ⟨h', g, dr, tk', os⟩ := by
  obtain ⟨oe, fv, hoe, hc, hd, hdat, h1⟩ := M.obj
  have hns := M.ns
  obtain ⟨G', g1, g2⟩ := restrict h' fun b => decide (b ≠ er)
  have gk : ∀ b, b ≠ er → G'.get? b = h'.get? b := fun b hb => g1 b (decide_eq_true hb)
  have ge : G'.get? er = none := g2 er (by simp)
  have old : ∀ b o, hp.get? b = some o → G'.get? b = some o := fun b o q => (gk b (Nat.ne_of_lt (Nat.lt_of_lt_of_le (Heap.lt_size q) M.new))).trans (M.keep b o q)
  have ob : ObjOk X.prog X.w (upd H1 d (.xd fs)) G' d (.xd fs) := ⟨_, hns.at (fun o q => (gk d M.dne).trans q), rel⟩
  have J : Inv X pins σ (upd H1 d (.xd fs)) ⟨G', g, dr, tk', os⟩ := I1.laid (t' := tk') old M.dbig ob
  refine ⟨er, oe, fv, ⟨G', g, dr, tk', os⟩, _, .ref C, some d, rfl, J, fun b o q => ?_, ge, hoe, ⟨hc, hd⟩, hdat, h1, ?_, rfl, I1.bare, raises_own O.exC O.tyC, q1 d (I1.hok.fresh M.dbig)⟩
  · by_cases hb : b = er
    · have q' : G'.get? b = some o := q
      rw [hb, ge] at q'; cases q'
    · exact (gk b hb).symm.trans q
  · rw [upd_ne (Ne.symm M.dne)]
    exact I1.hok.fresh M.new
/-- C(e) -/
def tMkE1 (C : Addr) (f : Str) (ta : TA) : L2.St → Hp → XK → Prop := fun σ H Q => ta σ H fun vs H1 => ∃ v, vs = [v] ∧ ∀ d, H1 d = none → Q (.ref C) (some d) (upd H1 d (.xd [(f, v)]))
theorem pmk_err1 (R : Err1 X.prog X.K X.mg x C fI st qual f) (hr : Room k X.A) (hg : Gl X x) (ha : PA X (e :: es) ta) (hdb : (x == ("__debug__" : Str)) = false := by decide)
    (he : starEach (e :: es) X.env = (false, eval e X.env) :: starEach es X.env := by rfl) (hpl : (backTo pos (starEach es X.env)).any (·.1) = false := by rfl) :
    PMk X (.Call (.Name x p) (e :: es) [] pos) (tMkE1 C f ta) := by
  intro pins s σ H Q I h
  refine wpAny_Call_Name_kw (ld_glob I hg R.g ?_ hdb)
  refine PySem.W.callWith_K (h₀ := X.base) I.ok.mod.kin R.O.kC (thn (ha.run pos pins s σ H _ I h) ?_) he hpl
  rintro us s1 ⟨vs, H1, I1, r1, v, rfl, q1⟩
  refine ⟨I1.kIn, ?_⟩
  obtain ⟨u, rfl, rv⟩ := vals1 r1
  obtain ⟨mb, hbn, hbb⟩ := I1.ok.mod.blt
  have bk := I1.bk
  have hlim := I1.nolimit
  obtain ⟨hp, g, dr, tk, os⟩ := s1
  refine wpAny_call (err_made R.O R.iC R.tI I1.kIn (by rw [sizeLine_eq]; show 1 ≤ 16777216; decide) (ms := fun y => if y = f then some u else none) ?_ fun h' tk' er d M => ?_)
  · intro A1 R1 s1 y t0 hd hK hk hx hnx hq
    have kb : ∀ b o, X.base.get? b = some o → s1.heap.get? b = some o := fun b o q => hk b o (bk b o q)
    exact err_init1 R.O R.S R.T R.no (fun kV doc pm an cdv ct cc => R.b _ kV doc pm an cdv ct cc _ _) hK (I1.ok.mod.glob.keeps kb) R.su (hbn.keeps kb) ((hbb _ (by decide +kernel)).trans (by decide +kernel)) (hlim.keeps hk) hx hnx (by have := hr.dp; omega) hq
  · exact mk_err R.O I1 M (relO_one rv) q1
/-- C(e, e') -/
def tMkE2 (C : Addr) (f f2 : Str) (ta : TA) : L2.St → Hp → XK → Prop := fun σ H Q => ta σ H fun vs H1 => ∃ v u, vs = [v, u] ∧ ∀ d, H1 d = none → Q (.ref C) (some d) (upd H1 d (.xd [(f2, u), (f, v)]))
theorem pmk_err2 (R : Err2 X.prog X.K X.mg x C fI st qual f f2) (hr : Room k X.A) (hg : Gl X x) (ha : PA X (e :: es) ta) (hdb : (x == ("__debug__" : Str)) = false := by decide)
    (he : starEach (e :: es) X.env = (false, eval e X.env) :: starEach es X.env := by rfl) (hpl : (backTo pos (starEach es X.env)).any (·.1) = false := by rfl) :
    PMk X (.Call (.Name x p) (e :: es) [] pos) (tMkE2 C f f2 ta) := by
  intro pins s σ H Q I h
  refine wpAny_Call_Name_kw (ld_glob I hg R.g ?_ hdb)
  refine PySem.W.callWith_K (h₀ := X.base) I.ok.mod.kin R.O.kC (thn (ha.run pos pins s σ H _ I h) ?_) he hpl
  rintro us s1 ⟨vs, H1, I1, r1, v, u0, rfl, q1⟩
  refine ⟨I1.kIn, ?_⟩
  obtain ⟨v', u', rfl, rv, ru⟩ := vals2 r1
  obtain ⟨mb, hbn, hbb⟩ := I1.ok.mod.blt
  have bk := I1.bk
  have hlim := I1.nolimit
  obtain ⟨hp, g, dr, tk, os⟩ := s1
  refine wpAny_call (err_made R.O R.iC R.tI I1.kIn (by rw [sizeLine_eq]; show 2 ≤ 16777216; decide) (ms := fun y => if y = f2 then some u' else if y = f then some v' else none) ?_ fun h' tk' er d M => ?_)
  · intro A1 R1 s1 y t0 hd hK hk hx hnx hq
    have kb : ∀ b o, X.base.get? b = some o → s1.heap.get? b = some o := fun b o q => hk b o (bk b o q)
    exact err_init2 R.O R.S R.T R.no R.no2 (fun kV doc pm an cdv ct cc => R.b _ kV doc pm an cdv ct cc _ _ _) hK (I1.ok.mod.glob.keeps kb) R.su (hbn.keeps kb) ((hbb _ (by decide +kernel)).trans (by decide +kernel)) (hlim.keeps hk) hx hnx (by have := hr.dp; omega) hq
  · exact mk_err R.O I1 M (relO_two rv ru) q1
end
end Sn

/-! ## Errors caught and kept: try .. except C as n: m = n; isinstance and attributes of what is kept -/
namespace Sn
open PySem PySem.Spec PyProof.Rows L2
/-- a caught error that is kept: its class, its dict -/
def ExK (cls : Value) (d : Option Addr) (a : Addr) : HO := .ext fun h => ∃ (oe : Obj) (vs : Array Value), h.get? a = some oe ∧ Zc cls d oe ∧ oe.data = .fields vs
theorem exK_at {P : Program} {w : World} {H : Hp} {h : Heap} {a : Addr} {cls : Value} {d : Option Addr} (x : HOk P w H h) (e : H a = some (ExK cls d a)) : ∃ (oe : Obj) (vs : Array Value), h.get? a = some oe ∧ Zc cls d oe ∧ oe.data = .fields vs := by
  have z : ObjOk P w H h a (.ext fun h => ∃ (oe : Obj) (vs : Array Value), h.get? a = some oe ∧ Zc cls d oe ∧ oe.data = .fields vs) := x a _ e
  exact z.1
section
variable {X : Cx} {pins : List (Addr × Obj)} {σ : L2.St} {H : Hp} {s : Shared}
/-- what was pinned is tracked -/
theorem inv_track {a : Addr} {oe : Obj} {vs : Array Value} {cls : Value} {d : Option Addr} (I : Inv X ((a, oe) :: pins) σ H s) (z : Zc cls d oe) (hd : oe.data = .fields vs) (h0 : X.s_0.heap.get? a = none) (np : ∀ p ∈ X.pn ++ pins, p.1 ≠ a) :
    Inv X pins σ (upd H a (ExK cls d a)) s := by
  obtain ⟨ha, na, nL, nF, _⟩ := I.pin (a, oe) (List.mem_append_right _ (List.mem_cons.mpr (.inl rfl)))
  have nb : ∀ {b : Addr} {o : Obj}, X.s_0.heap.get? b = some o → b ≠ a := fun {b o} e q => by rw [q, h0] at e; cases e
  have nt : ∀ {b : Addr} {o : HO}, H b = some o → b ≠ a := fun {b o} e q => by rw [q, na] at e; cases e
  have new : ObjOk X.prog X.w (upd H a (ExK cls d a)) s.heap a (ExK cls d a) :=
    ⟨⟨oe, vs, ha, z, hd⟩, ⟨oe, ha⟩, fun _ _ ⟨o, v, q, r⟩ k => ⟨o, v, k o q, r⟩⟩
  refine ⟨I.ok, I.os, I.bare, ⟨I.base.keep, I.base.slot, ?_, I.base.there, ?_, ?_, ?_⟩, I.loc, I.cell, ?_, ?_, ?_, ?_, I.len⟩
  · intro b o e n hx
    rw [upd_ne (nb e)]
    exact I.base.free b o e n hx
  · intro b xs e
    have q := I.base.tups b xs e
    rw [upd_ne (nt q)]; exact q
  · intro b o xs e
    have q := I.base.frzs b o xs e
    rw [upd_ne (nt q)]; exact q
  · intro b ps e
    obtain ⟨m, q⟩ := I.base.tbls b ps e
    exact ⟨m, by rw [upd_ne (nt q)]; exact q⟩
  · rw [upd_ne nL.symm]; exact I.free
  · intro x c e
    obtain ⟨v, o, ho, hc⟩ := I.cell x c e
    have nc : c ≠ a := fun q => by
      rw [q, ha] at ho
      cases ho
      rw [hd] at hc
      cases hc
    rw [upd_ne nc]; exact I.freeC x c e
  · intro p hp
    have mem : p ∈ X.pn ++ ((a, oe) :: pins) := by
      rcases List.mem_append.mp hp with q | q
      · exact List.mem_append_left _ q
      · exact List.mem_append_right _ (List.mem_cons_of_mem _ q)
    obtain ⟨e1, e2, e3, e4, e5⟩ := I.pin p mem
    exact ⟨e1, by rw [upd_ne (np p hp)]; exact e2, e3, e4, e5⟩
  · intro b u e
    by_cases hb : b = a
    · subst hb
      rw [upd_same] at e
      cases e
      exact new
    · rw [upd_ne hb] at e
      exact (I.hok b u e).stay (fun _ _ _ q => q) (fun c q => by rw [upd_ne (nt q)]; exact q) fun c xs q => by rw [upd_ne (nt q)]; exact q
/-- how the suite ends: next, the error is tracked -/
abbrev kpEnds (D : Ends) (i : Nat) (a : Addr) (cls : Value) (d : Option Addr) : Ends :=
  { nx := fun σ' H' => H' a = none → D.nx (σ'.set i none) (upd H' a (ExK cls d a)), rt := fun _ _ => False, bk := fun _ _ => False, ct := fun _ _ => False }
/-- what the clause wishes of an error of the body: it is of the class, and the suite runs -/
def wKp (K : PySem.W.Frag) (c : Value) (i : Nat) (ts : Addr → Value → Option Addr → TS) (D : Ends) : WX := fun cls d σ H =>
  PySem.W.exmOne K cls c = some true ∧ ∀ a, H a = none → ts a cls d (kpEnds D i a cls d) (σ.set i (some (.ref a))) H
/-- try: body / except x as n: suite, where the suite keeps the error -/
theorem ps_try_keep {x n : Str} {c : Value} {i : Nat} {body suite : List Stmt} {b₀ : Stmt} {np pos pos' : Pos} {tb : WX → TS} {ts : Addr → Value → Option Addr → TS}
    (hs : X.stack = X.env :: X.outer) (hf : X.env.frame = some X.env.locals) (hex : X.ex = []) (hN : X.N.Nodup) (hi : X.N[i]? = some n) (hln : X.env.kindOf n = some .local) (hc : L2.Names X x c)
    (hb : ∀ (W : WX) (pn : List (Addr × Obj)) (xe : Value → Shared → Prop), Takes (X.tr pn xe) W → PassesOwn (model X.prog X.w) X.A X.env xe → PSs (X.tr pn xe) body (tb W))
    (hsu : ∀ (a : Addr) (oe : Obj) (cls : Value) (d : Option Addr) (pn : List (Addr × Obj)), Zc cls d oe → (∃ vs, oe.data = .fields vs) → PSs (X.suite a ((a, oe) :: pn)) (b₀ :: suite) (ts a cls d)) :
    PS X (.Try body [.ExceptHandler (some (.Name x np)) (some n) (b₀ :: suite) pos'] [] [] pos) (fun D σ H => tb (wKp X.K c i ts D) D σ H) := by
  refine ⟨fun pins s σ H D I h => ?_⟩
  have okX := I.ok
  have frm : X.A.frames = some (X.env :: X.outer) := okX.frames.trans (by rw [hs])
  refine wpAny_Try_except ?_
  have run := (hb (wKp X.K c i ts D) (X.pn ++ pins) (fun e s1 => wpAny (model X.prog X.w) X.A (noteFrame e X.env) (fun _ s2 => wpAny (model X.prog X.w) X.A (setFlight e none)
    (fun _ s3 => wpAny (model X.prog X.w) X.A (handleBy e X.env [.ExceptHandler (some (.Name x np)) (some n) (b₀ :: suite) pos']) (SP X pins D) X.xe s3) X.xe s2) X.xe s1) ?caught PassesOwn.looking).run [] s σ H D (I.toTry _) h
  case caught =>
    rintro u s1 ⟨a, B, sI, pins', σ1, H1, cls, d, rfl, J0, nb, up, sky, na, os, ag, hyes, hsuite⟩
    have J : Inv X pins σ1 H1 sI := J0.ofTry okX
    rw [hs] at sky
    refine Sky.land Zc.steady frm hf sky fun h2 fl2 up2 => ?_
    obtain ⟨o2, v2, g2, z2, d2⟩ := fl2.there
    have nst : a ∉ frs (X.env :: X.outer) := fun hm => by
      obtain ⟨_, o, g, no⟩ := fl2.2.2.1.mem hm
      rw [g2] at g
      cases g
      exact no _ d2
    have nL : a ≠ X.env.locals := fun q => nst (List.mem_filterMap.mpr ⟨X.env, List.mem_cons.mpr (.inl rfl), by rw [hf, q]⟩)
    have nF : a ∉ X.fs := fun hm => by
      obtain ⟨e, he, q⟩ := List.mem_filterMap.mp hm
      exact nst (List.mem_filterMap.mpr ⟨e, List.mem_cons_of_mem _ he, q⟩)
    have nB : B.get? a = none := fl2.2.1
    -- nothing of the entry stands at a, nor a pin
    have onB : ∀ {b : Addr} {o : Obj}, sI.heap.get? b = some o → b ∉ frs X.stack → b ≠ a := fun {b o} e hb q => by
      have := nb b o e hb
      rw [q, nB] at this; cases this
    have fr0 : X.s_0.heap.get? a = none := by
      cases e : X.s_0.heap.get? a with
      | none => rfl
      | some o =>
        obtain ⟨o', e'⟩ := J.base.there a o e (by rw [hex]; simp)
        exact absurd rfl (onB e' (by rw [hs]; exact nst))
    have npn : ∀ p ∈ X.pn ++ pins, p.1 ≠ a := fun p hp => by
      obtain ⟨e1, _, e3, e4, _⟩ := J.pin p hp
      refine onB e1 fun hm => ?_
      rw [hs] at hm
      obtain ⟨v, hv, q⟩ := List.mem_filterMap.mp hm
      rcases List.mem_cons.mp hv with rfl | hv
      · rw [hf] at q
        exact e3 (Option.some.inj q).symm
      · exact e4 (List.mem_filterMap.mpr ⟨v, hv, q⟩)
    have J2 : Inv X pins σ1 H1 { s1 with heap := h2 } := J.landed nb fl2.1 (up.trans up2) os ag
    have S2 := J2.suite g2 d2 na nL nF
    refine wpAny_handleBy_cons (codeAny_handlers_test ?_) (by intro q; cases q)
    have ty : PySem.W.Looks (model X.prog X.w) h2 (typeOf (.ref a)) cls := fun A' Q' E' s' k q => wpAny_typeOf_ref (k _ _ g2) (by rw [z2.1]; exact q)
    have hit := PySem.W.exm_one (M := model X.prog X.w) J2.kIn ty hyes
    have name : ∀ {Q : Value → Shared → Prop} {E : Value → Shared → Prop}, Q c { s1 with heap := h2 } → wpAny (model X.prog X.w) (X.A.mark (some (.ref a))) (eval (.Name x np) X.env) Q E { s1 with heap := h2 } := by
      intro Q E q
      obtain ⟨hg, hdb, hm | ⟨hm, hv, hnn⟩⟩ := hc
      · exact ld_glob (X := X.suite a ((a, o2) :: (X.pn ++ pins))) S2 hg hm q hdb
      · exact ld_blt (X := X.suite a ((a, o2) :: (X.pn ++ pins))) S2 hg hm hv q hnn hdb
    refine name (hit.here (codeAny_handlers_suite_as ?_))
    refine HandSPX.lands_againZ fl2 fun h3 fl3 up3 => ?_
    obtain ⟨o3, v3, g3, z3, d3⟩ := fl3.there
    have J3 : Inv X pins σ1 H1 { s1 with heap := h3 } := J.landed nb fl3.1 ((up.trans up2).trans up3) os ag
    have S3 := J3.suite g3 d3 na nL nF
    refine store_ok (X := X.suite a ((a, o3) :: (X.pn ++ pins))) (v := .ref a) S3 hN hi (.inl hln) rfl (fun s4 S4 => ?_) (.inr hln)
    refine wpAny_mono ((hsu a o3 cls d (X.pn ++ pins) z3 ⟨_, d3⟩).run [] s4 _ H1 _ S4 (hsuite a na)) (fun f s5 q5 => ?_) fun _ _ q => False.elim q
    match f, q5 with
    | .next, ⟨σ5, H5, S5, q5⟩ =>
      have J5 : Inv X ((a, o3) :: pins) σ5 H5 s5 := by
        refine ⟨okX, S5.os, S5.bare, S5.base, S5.loc, S5.cell, S5.free, S5.freeC, fun p hp => S5.pin p ?_, S5.hok, S5.len⟩
        rw [List.append_nil]
        rcases List.mem_append.mp hp with q | q
        · exact List.mem_cons_of_mem _ (List.mem_append_left _ q)
        · rcases List.mem_cons.mp q with q | q
          · rw [q]; exact List.mem_cons.mpr (.inl rfl)
          · exact List.mem_cons_of_mem _ (List.mem_append_right _ q)
      refine gone_ok J5 hN hi hln fun s6 J6 => ?_
      have nH : H5 a = none := (J6.pin (a, o3) (List.mem_append_right _ (List.mem_cons.mpr (.inl rfl)))).2.1
      exact ⟨_, _, inv_track J6 z3 d3 fr0 npn, q5 nH⟩
    | .brk, ⟨_, _, _, q5⟩ => exact q5.elim
    | .cont, ⟨_, _, _, q5⟩ => exact q5.elim
    | .ret _, ⟨_, _, _, _, _, q5⟩ => exact q5.elim
  refine wpAny_mono run (fun f s1 q => ?_) fun _ _ q => q
  match f, q with
  | .next, ⟨σ1, H1, J1, q⟩ => exact wpAny_execs_nil ⟨σ1, H1, J1.ofTry okX, q⟩
  | .brk, ⟨σ1, H1, J1, q⟩ => exact ⟨σ1, H1, J1.ofTry okX, q⟩
  | .cont, ⟨σ1, H1, J1, q⟩ => exact ⟨σ1, H1, J1.ofTry okX, q⟩
  | .ret u, ⟨v, σ1, H1, J1, r, q⟩ => exact ⟨v, σ1, H1, J1.ofTry okX, r, q⟩
/-- the dict of a kept error stands -/
def XdOk (H : Hp) (d : Option Addr) : Prop := d = none ∨ ∃ dd fs, d = some dd ∧ H dd = some (.xd fs)
theorem exK_inst {a D : Addr} {d : Option Addr} (I : Inv X pins σ H s) (e : H a = some (ExK (.ref D) d a)) (hd : XdOk H d) : ∃ ox od, PySem.W.InstAt s.heap a ox D od := by
  obtain ⟨oe, vs, g, ⟨z1, z2⟩, dt⟩ := exK_at I.hok e
  have nc : PySem.W.notCls oe = true := by unfold PySem.W.notCls; rw [dt]
  rcases hd with rfl | ⟨dd, fs, rfl, hx⟩
  · exact ⟨oe, none, g, z1, nc, by rw [z2]; trivial⟩
  · obtain ⟨mA, ⟨od, es, ep, ho, _⟩, _⟩ := (show ObjOk X.prog X.w H s.heap dd (.xd fs) from I.hok dd _ hx)
    exact ⟨oe, some od, g, z1, nc, by rw [z2]; exact ho⟩
/-- isinstance(e, c), e a kept error -/
def rIsX (K : PySem.W.Frag) : List V → Hp → VK → Prop := fun xs H Q => ∃ (a D : Addr) (d : Option Addr) (c : V) (cv : Value) (b : Bool), xs = [.ref a, c] ∧ H a = some (ExK (.ref D) d a) ∧ XdOk H d ∧ ExcC K D ∧ ClsV c cv ∧
  PySem.W.kitOne K (.ref D) cv = some b ∧ Q (.bl b) H
theorem call_isX : CallR X (.builtin "isinstance") (rIsX X.K) := by
  intro pins s σ H xs us Q I r h
  obtain ⟨a, D, d, c, cv, b, rfl, ha, hd, C, kc, e, q⟩ := h
  obtain ⟨u1, u2, rfl, r1, r2⟩ := vals2 r
  cases r1
  have ec := kc.eq r2
  subst ec
  obtain ⟨ox, od, J⟩ := exK_inst I ha hd
  have hcl : (PySem.W.clsIn X.K D).isSome = true := by
    obtain ⟨cd, hc, _⟩ := PySem.W.any_some C.hd
    rw [hc]; rfl
  exact PySem.W.kia_one (PySem.W.kitx_exc hcl C.hg C.hk C.hs C.ha C.hn C.ht C.hm) I.kIn J e (fun z => nomatch z) fun tk => ⟨.bl b, H, I.tok tk, rfl, q⟩
/-- e.f, e a kept error -/
def tXk (K : PySem.W.Frag) (f : Str) (te : TE) : TE := fun σ H Q => te σ H fun x H1 => ∃ (a C dd : Addr) (fs : List (Str × V)) (v : V), x = .ref a ∧ H1 a = some (ExK (.ref C) (some dd) a) ∧ H1 dd = some (.xd fs) ∧ fs.lookup f = some v ∧
  XfC K C ∧ PySem.W.findIn K (.ref C) f = some none ∧ Q v H1
theorem pe_xk {e : Expr} {te : TE} {pos : Pos} {f : Str} (he : PE X e te) (hb : attributeBase e f X.env (eval e X.env) = eval e X.env := by rfl) : PE X (.Attribute e f pos) (tXk X.K f te) := by
  refine ⟨fun pins s σ H Q I h => attr_of hb (thn (he.run pins s σ H _ I h) ?_)⟩
  rintro u s1 ⟨y, H1, I1, ry, a, C, dd, fs, v, rfl, ha, hx, l, T, hno, q⟩
  cases ry
  obtain ⟨oe, vs, g, ⟨z1, z2⟩, dt⟩ := exK_at I1.hok ha
  obtain ⟨mA, hns, rel⟩ := (show ObjOk X.prog X.w H1 s1.heap dd (.xd fs) from I1.hok dd _ hx)
  obtain ⟨od, ho, hl⟩ := lookIn_ns hns
  obtain ⟨u, hu, ru⟩ := RelO.some_of (v := v) (o := mA f) (by rw [← l]; exact rel f)
  have J : PySem.W.InstAt s1.heap a oe C (some od) := ⟨g, z1, by unfold PySem.W.notCls; rw [dt], by rw [z2]; exact ho⟩
  exact HandSPX.exc_get I1.kIn J T.ga T.gg T.exC (PySem.W.findObj_own T.hdC hno rfl (by rw [hl, hu])) (handed_of ru) ⟨v, H1, I1.tok _, ru, q⟩
end
end Sn

namespace Sn
open PySem PySem.Spec PyProof.Rows L2
def top (i : Nat) : Stmt := PySem.Challenge.pw_sparenames_k13_lines_of_reserved_words.main.body.getD i (.Pass ⟨0, 0, 0, 0⟩)
abbrev s_BadText_init : Stmt := inClass (top 2) 0
abbrev s_is_word : Stmt := top 8
abbrev s_is_name : Stmt := top 9
abbrev s_are_different : Stmt := top 10
abbrev s_are_names : Stmt := top 11
abbrev s_are_pairs : Stmt := top 22
abbrev s_Scanner_init : Stmt := inClass (top 23) 0
abbrev s_Scanner_rest : Stmt := inClass (top 23) 1
abbrev s_Scanner_take : Stmt := inClass (top 23) 2
abbrev s_Scanner_word : Stmt := inClass (top 23) 3
abbrev s_Scanner_next_name : Stmt := inClass (top 23) 4
abbrev s_Scanner_quoted : Stmt := inClass (top 23) 5
abbrev s_Scanner_part : Stmt := inClass (top 23) 6
abbrev s_Scanner_expr : Stmt := inClass (top 23) 7
abbrev s_Scanner_built : Stmt := inClass (top 23) 8
abbrev s_Scanner_target : Stmt := inClass (top 23) 9
abbrev s_Scanner_listed : Stmt := inClass (top 23) 10
abbrev s_Scanner_call : Stmt := inClass (top 23) 11
abbrev s_Scanner_let : Stmt := inClass (top 23) 12
abbrev s_Scanner_choice : Stmt := inClass (top 23) 13
abbrev s_Scanner_statement : Stmt := inClass (top 23) 14
abbrev s_Scanner_used : Stmt := inClass (top 23) 15
abbrev s_Scanner_offered : Stmt := inClass (top 23) 16
abbrev s_Scanner_keyed : Stmt := inClass (top 23) 17
abbrev s_Scanner_defined : Stmt := inClass (top 23) 18
abbrev s_Scanner_item : Stmt := inClass (top 23) 19
abbrev s_Frame_init : Stmt := inClass (top 24) 0
abbrev s_Frame_may_go_on : Stmt := inClass (top 24) 1
abbrev s_Frame_is_complete : Stmt := inClass (top 24) 2
abbrev s_Frame_whole : Stmt := inClass (top 24) 3
abbrev s_Reader_init : Stmt := inClass (top 25) 0
abbrev s_Reader_keep : Stmt := inClass (top 25) 1
abbrev s_Reader_shut : Stmt := inClass (top 25) 2
abbrev s_Reader_go_on : Stmt := inClass (top 25) 3
abbrev s_Reader_take_head : Stmt := inClass (top 25) 4
abbrev s_Reader_take : Stmt := inClass (top 25) 5
abbrev s_read_module : Stmt := top 26
abbrev s_law_begun : Stmt := top 28
abbrev s_law_mixed : Stmt := top 29
abbrev s_law_take : Stmt := top 30
abbrev s_law_pick : Stmt := top 31
abbrev s_law_reserved : Stmt := top 32
abbrev s_law_told : Stmt := top 33
abbrev s_law_near : Stmt := top 34
abbrev s_law_item_line : Stmt := top 35
abbrev s_law_row_line : Stmt := top 36
abbrev s_law_block_line : Stmt := top 37
abbrev s_law : Stmt := top 38
abbrev n_is_word : List Str := ["value", "sign"]
theorem sc_is_word : FnScope n_is_word ["value"] (defScope s_is_word) := ⟨rfl, rfl, rfl, by decide +kernel, rfl, by decide +kernel, by decide +kernel⟩
abbrev n_is_name : List Str := ["value"]
theorem sc_is_name : FnScope n_is_name ["value"] (defScope s_is_name) := ⟨rfl, rfl, rfl, by decide +kernel, rfl, by decide +kernel, by decide +kernel⟩
abbrev n_are_different : List Str := ["values", "value"]
theorem sc_are_different : FnScope n_are_different ["values"] (defScope s_are_different) := ⟨rfl, rfl, rfl, by decide +kernel, rfl, by decide +kernel, by decide +kernel⟩
abbrev n_are_names : List Str := ["value", "least", "most", "name"]
theorem sc_are_names : FnScope n_are_names ["value", "least", "most"] (defScope s_are_names) := ⟨rfl, rfl, rfl, by decide +kernel, rfl, by decide +kernel, by decide +kernel⟩
abbrev n_are_pairs : List Str := ["value", "pair", "key", "name"]
theorem sc_are_pairs : FnScope n_are_pairs ["value"] (defScope s_are_pairs) := ⟨rfl, rfl, rfl, by decide +kernel, rfl, by decide +kernel, by decide +kernel⟩
abbrev n_Scanner_init : List Str := ["self", "line"]
theorem sc_Scanner_init : FnScope n_Scanner_init ["self", "line"] (defScope s_Scanner_init) := ⟨rfl, rfl, rfl, by decide +kernel, rfl, by decide +kernel, by decide +kernel⟩
abbrev n_Scanner_rest : List Str := ["self"]
theorem sc_Scanner_rest : FnScope n_Scanner_rest ["self"] (defScope s_Scanner_rest) := ⟨rfl, rfl, rfl, by decide +kernel, rfl, by decide +kernel, by decide +kernel⟩
abbrev n_Scanner_take : List Str := ["self", "signs"]
theorem sc_Scanner_take : FnScope n_Scanner_take ["self", "signs"] (defScope s_Scanner_take) := ⟨rfl, rfl, rfl, by decide +kernel, rfl, by decide +kernel, by decide +kernel⟩
abbrev n_Scanner_word : List Str := ["self", "begin", "found"]
theorem sc_Scanner_word : FnScope n_Scanner_word ["self"] (defScope s_Scanner_word) := ⟨rfl, rfl, rfl, by decide +kernel, rfl, by decide +kernel, by decide +kernel⟩
abbrev n_Scanner_next_name : List Str := ["self", "found"]
theorem sc_Scanner_next_name : FnScope n_Scanner_next_name ["self"] (defScope s_Scanner_next_name) := ⟨rfl, rfl, rfl, by decide +kernel, rfl, by decide +kernel, by decide +kernel⟩
abbrev n_Scanner_quoted : List Str := ["self", "ahead", "behind", "found"]
theorem sc_Scanner_quoted : FnScope n_Scanner_quoted ["self", "ahead", "behind"] (defScope s_Scanner_quoted) := ⟨rfl, rfl, rfl, by decide +kernel, rfl, by decide +kernel, by decide +kernel⟩
abbrev n_Scanner_part : List Str := ["self", "word", "name"]
theorem sc_Scanner_part : FnScope n_Scanner_part ["self"] (defScope s_Scanner_part) := ⟨rfl, rfl, rfl, by decide +kernel, rfl, by decide +kernel, by decide +kernel⟩
abbrev n_Scanner_expr : List Str := ["self", "parts"]
theorem sc_Scanner_expr : FnScope n_Scanner_expr ["self"] (defScope s_Scanner_expr) := ⟨rfl, rfl, rfl, by decide +kernel, rfl, by decide +kernel, by decide +kernel⟩
abbrev n_Scanner_built : List Str := ["self", "found"]
theorem sc_Scanner_built : FnScope n_Scanner_built ["self"] (defScope s_Scanner_built) := ⟨rfl, rfl, rfl, by decide +kernel, rfl, by decide +kernel, by decide +kernel⟩
abbrev n_Scanner_target : List Str := ["self", "expr", "name"]
theorem sc_Scanner_target : FnScope n_Scanner_target ["self"] (defScope s_Scanner_target) := ⟨rfl, rfl, rfl, by decide +kernel, rfl, by decide +kernel, by decide +kernel⟩
abbrev n_Scanner_listed : List Str := ["self", "by_name", "end", "found"]
theorem sc_Scanner_listed : FnScope n_Scanner_listed ["self", "by_name", "end"] (defScope s_Scanner_listed) := ⟨rfl, rfl, rfl, by decide +kernel, rfl, by decide +kernel, by decide +kernel⟩
abbrev n_Scanner_call : List Str := ["self", "into", "target", "given"]
theorem sc_Scanner_call : FnScope n_Scanner_call ["self", "into"] (defScope s_Scanner_call) := ⟨rfl, rfl, rfl, by decide +kernel, rfl, by decide +kernel, by decide +kernel⟩
abbrev n_Scanner_let : List Str := ["self", "name", "expr"]
theorem sc_Scanner_let : FnScope n_Scanner_let ["self"] (defScope s_Scanner_let) := ⟨rfl, rfl, rfl, by decide +kernel, rfl, by decide +kernel, by decide +kernel⟩
abbrev n_Scanner_choice : List Str := ["self", "expr", "word"]
theorem sc_Scanner_choice : FnScope n_Scanner_choice ["self"] (defScope s_Scanner_choice) := ⟨rfl, rfl, rfl, by decide +kernel, rfl, by decide +kernel, by decide +kernel⟩
abbrev n_Scanner_statement : List Str := ["self", "name", "word", "expr"]
theorem sc_Scanner_statement : FnScope n_Scanner_statement ["self"] (defScope s_Scanner_statement) := ⟨rfl, rfl, rfl, by decide +kernel, rfl, by decide +kernel, by decide +kernel⟩
abbrev n_Scanner_used : List Str := ["self", "module", "name", "own"]
theorem sc_Scanner_used : FnScope n_Scanner_used ["self"] (defScope s_Scanner_used) := ⟨rfl, rfl, rfl, by decide +kernel, rfl, by decide +kernel, by decide +kernel⟩
abbrev n_Scanner_offered : List Str := ["self", "names"]
theorem sc_Scanner_offered : FnScope n_Scanner_offered ["self"] (defScope s_Scanner_offered) := ⟨rfl, rfl, rfl, by decide +kernel, rfl, by decide +kernel, by decide +kernel⟩
abbrev n_Scanner_keyed : List Str := ["self", "name", "pairs", "key"]
theorem sc_Scanner_keyed : FnScope n_Scanner_keyed ["self"] (defScope s_Scanner_keyed) := ⟨rfl, rfl, rfl, by decide +kernel, rfl, by decide +kernel, by decide +kernel⟩
abbrev n_Scanner_defined : List Str := ["self", "name", "params"]
theorem sc_Scanner_defined : FnScope n_Scanner_defined ["self"] (defScope s_Scanner_defined) := ⟨rfl, rfl, rfl, by decide +kernel, rfl, by decide +kernel, by decide +kernel⟩
abbrev n_Scanner_item : List Str := ["self", "name", "word"]
theorem sc_Scanner_item : FnScope n_Scanner_item ["self"] (defScope s_Scanner_item) := ⟨rfl, rfl, rfl, by decide +kernel, rfl, by decide +kernel, by decide +kernel⟩
abbrev n_Frame_init : List Str := ["self", "head"]
theorem sc_Frame_init : FnScope n_Frame_init ["self", "head"] (defScope s_Frame_init) := ⟨rfl, rfl, rfl, by decide +kernel, rfl, by decide +kernel, by decide +kernel⟩
abbrev n_Frame_may_go_on : List Str := ["self", "line"]
theorem sc_Frame_may_go_on : FnScope n_Frame_may_go_on ["self", "line"] (defScope s_Frame_may_go_on) := ⟨rfl, rfl, rfl, by decide +kernel, rfl, by decide +kernel, by decide +kernel⟩
abbrev n_Frame_is_complete : List Str := ["self"]
theorem sc_Frame_is_complete : FnScope n_Frame_is_complete ["self"] (defScope s_Frame_is_complete) := ⟨rfl, rfl, rfl, by decide +kernel, rfl, by decide +kernel, by decide +kernel⟩
abbrev n_Frame_whole : List Str := ["self", "blocks", "block"]
theorem sc_Frame_whole : FnScope n_Frame_whole ["self"] (defScope s_Frame_whole) := ⟨rfl, rfl, rfl, by decide +kernel, rfl, by decide +kernel, by decide +kernel⟩
abbrev n_Reader_init : List Str := ["self"]
theorem sc_Reader_init : FnScope n_Reader_init ["self"] (defScope s_Reader_init) := ⟨rfl, rfl, rfl, by decide +kernel, rfl, by decide +kernel, by decide +kernel⟩
abbrev n_Reader_keep : List Str := ["self", "row"]
theorem sc_Reader_keep : FnScope n_Reader_keep ["self", "row"] (defScope s_Reader_keep) := ⟨rfl, rfl, rfl, by decide +kernel, rfl, by decide +kernel, by decide +kernel⟩
abbrev n_Reader_shut : List Str := ["self", "level", "frame"]
theorem sc_Reader_shut : FnScope n_Reader_shut ["self", "level"] (defScope s_Reader_shut) := ⟨rfl, rfl, rfl, by decide +kernel, rfl, by decide +kernel, by decide +kernel⟩
abbrev n_Reader_go_on : List Str := ["self", "line", "level"]
theorem sc_Reader_go_on : FnScope n_Reader_go_on ["self", "line", "level"] (defScope s_Reader_go_on) := ⟨rfl, rfl, rfl, by decide +kernel, rfl, by decide +kernel, by decide +kernel⟩
abbrev n_Reader_take_head : List Str := ["self", "head", "level"]
theorem sc_Reader_take_head : FnScope n_Reader_take_head ["self", "head", "level"] (defScope s_Reader_take_head) := ⟨rfl, rfl, rfl, by decide +kernel, rfl, by decide +kernel, by decide +kernel⟩
abbrev n_Reader_take : List Str := ["self", "line", "signs", "level", "rest", "scanner", "head"]
theorem sc_Reader_take : FnScope n_Reader_take ["self", "line"] (defScope s_Reader_take) := ⟨rfl, rfl, rfl, by decide +kernel, rfl, by decide +kernel, by decide +kernel⟩
abbrev n_read_module : List Str := ["text", "reader", "lines", "at", "line"]
theorem sc_read_module : FnScope n_read_module ["text"] (defScope s_read_module) := ⟨rfl, rfl, rfl, by decide +kernel, rfl, by decide +kernel, by decide +kernel⟩
abbrev n_law_begun : List Str := ["_law_script", "_law_great", "_law_cell"]
theorem sc_law_begun : FnScope n_law_begun ["_law_script"] (defScope s_law_begun) := ⟨rfl, rfl, rfl, by decide +kernel, rfl, by decide +kernel, by decide +kernel⟩
abbrev n_law_mixed : List Str := ["_law_state", "_law_found", "_law_prime", "_law_blend", "_law_cell"]
theorem sc_law_mixed : FnScope n_law_mixed ["_law_state"] (defScope s_law_mixed) := ⟨rfl, rfl, rfl, by decide +kernel, rfl, by decide +kernel, by decide +kernel⟩
abbrev n_law_take : List Str := ["_law_state", "_law_size", "_law_found"]
theorem sc_law_take : FnScope n_law_take ["_law_state", "_law_size"] (defScope s_law_take) := ⟨rfl, rfl, rfl, by decide +kernel, rfl, by decide +kernel, by decide +kernel⟩
abbrev n_law_pick : List Str := ["_law_state", "_law_some"]
theorem sc_law_pick : FnScope n_law_pick ["_law_state", "_law_some"] (defScope s_law_pick) := ⟨rfl, rfl, rfl, by decide +kernel, rfl, by decide +kernel, by decide +kernel⟩
abbrev n_law_reserved : List Str := ["_law_words"]
theorem sc_law_reserved : FnScope n_law_reserved [] (defScope s_law_reserved) := ⟨rfl, rfl, rfl, by decide +kernel, rfl, by decide +kernel, by decide +kernel⟩
abbrev n_law_told : List Str := ["_law_text", "_law_caught", "_law_found", "e"]
theorem sc_law_told : FnScope n_law_told ["_law_text"] (defScope s_law_told) := ⟨rfl, rfl, rfl, by decide +kernel, rfl, by decide +kernel, by decide +kernel⟩
abbrev n_law_near : List Str := ["_law_state", "_law_word", "_law_some", "_law_found"]
theorem sc_law_near : FnScope n_law_near ["_law_state"] (defScope s_law_near) := ⟨rfl, rfl, rfl, by decide +kernel, rfl, by decide +kernel, by decide +kernel⟩
abbrev n_law_item_line : List Str := ["_law_state", "_law_way", "_law_one", "_law_other", "_law_third", "_law_a", "_law_b", "_law_c", "_law_is_good", "_law_tree"]
theorem sc_law_item_line : FnScope n_law_item_line ["_law_state"] (defScope s_law_item_line) := ⟨rfl, rfl, rfl, by decide +kernel, rfl, by decide +kernel, by decide +kernel⟩
abbrev n_law_row_line : List Str := ["_law_state", "_law_way", "_law_one", "_law_other", "_law_third", "_law_a", "_law_b", "_law_c", "_law_text", "_law_tree"]
theorem sc_law_row_line : FnScope n_law_row_line ["_law_state"] (defScope s_law_row_line) := ⟨rfl, rfl, rfl, by decide +kernel, rfl, by decide +kernel, by decide +kernel⟩
abbrev n_law_block_line : List Str := ["_law_state", "_law_way", "_law_one", "_law_other", "_law_a", "_law_b"]
theorem sc_law_block_line : FnScope n_law_block_line ["_law_state"] (defScope s_law_block_line) := ⟨rfl, rfl, rfl, by decide +kernel, rfl, by decide +kernel, by decide +kernel⟩
abbrev n_law : List Str := ["_law_script", "_law_state", "_law_turn", "_law_way", "_law_text", "_law_tree", "_law_is_good", "_law_due", "_law_row"]
theorem sc_law : FnScope n_law ["_law_script"] (defScope s_law) := ⟨rfl, rfl, rfl, by decide +kernel, rfl, by decide +kernel, by decide +kernel⟩
def mainFile : Str := PySem.Challenge.pw_sparenames_k13_lines_of_reserved_words.main.file
/-- what an error's super() asks of the program -/
def PrOk (P : Program) : Prop := P.main.file = mainFile ∧ (P.main.scope.names.lookup ("super" : Str)).isSome = false
theorem tx_BadText : Txt1 s_BadText_init "line" := ⟨⟨rfl, rfl, rfl, by decide +kernel, ⟨_, rfl, rfl⟩, rfl, rfl, rfl⟩, rfl, by decide +kernel, by decide +kernel, ⟨_, _, _, _, _, _, _, _, _, _, _, _, rfl, fun _ => rfl⟩⟩
/-- what the top has left: the defs, the constants, the names that are still built in -/
structure Txt (K : PySem.W.Frag) (mg : Str → Option Value) where
  f_is_word : Addr
  fd_is_word : FuncData
  F_is_word : Fun K "is_word" "is_word" s_is_word f_is_word fd_is_word
  g_is_word : mg "is_word" = some (.ref f_is_word)
  b_is_word : Binds K fd_is_word ["value"] []
  f_is_name : Addr
  fd_is_name : FuncData
  F_is_name : Fun K "is_name" "is_name" s_is_name f_is_name fd_is_name
  g_is_name : mg "is_name" = some (.ref f_is_name)
  b_is_name : Binds K fd_is_name ["value"] []
  f_are_different : Addr
  fd_are_different : FuncData
  F_are_different : Fun K "are_different" "are_different" s_are_different f_are_different fd_are_different
  g_are_different : mg "are_different" = some (.ref f_are_different)
  b_are_different : Binds K fd_are_different ["values"] []
  f_are_names : Addr
  fd_are_names : FuncData
  F_are_names : Fun K "are_names" "are_names" s_are_names f_are_names fd_are_names
  g_are_names : mg "are_names" = some (.ref f_are_names)
  b_are_names : Binds K fd_are_names ["value", "least", "most"] []
  f_are_pairs : Addr
  fd_are_pairs : FuncData
  F_are_pairs : Fun K "are_pairs" "are_pairs" s_are_pairs f_are_pairs fd_are_pairs
  g_are_pairs : mg "are_pairs" = some (.ref f_are_pairs)
  b_are_pairs : Binds K fd_are_pairs ["value"] []
  f_read_module : Addr
  fd_read_module : FuncData
  F_read_module : Fun K "read_module" "read_module" s_read_module f_read_module fd_read_module
  g_read_module : mg "read_module" = some (.ref f_read_module)
  b_read_module : Binds K fd_read_module ["text"] []
  f_law_begun : Addr
  fd_law_begun : FuncData
  F_law_begun : Fun K "_law_begun" "_law_begun" s_law_begun f_law_begun fd_law_begun
  g_law_begun : mg "_law_begun" = some (.ref f_law_begun)
  b_law_begun : Binds K fd_law_begun ["_law_script"] []
  f_law_mixed : Addr
  fd_law_mixed : FuncData
  F_law_mixed : Fun K "_law_mixed" "_law_mixed" s_law_mixed f_law_mixed fd_law_mixed
  g_law_mixed : mg "_law_mixed" = some (.ref f_law_mixed)
  b_law_mixed : Binds K fd_law_mixed ["_law_state"] []
  f_law_take : Addr
  fd_law_take : FuncData
  F_law_take : Fun K "_law_take" "_law_take" s_law_take f_law_take fd_law_take
  g_law_take : mg "_law_take" = some (.ref f_law_take)
  b_law_take : Binds K fd_law_take ["_law_state", "_law_size"] []
  f_law_pick : Addr
  fd_law_pick : FuncData
  F_law_pick : Fun K "_law_pick" "_law_pick" s_law_pick f_law_pick fd_law_pick
  g_law_pick : mg "_law_pick" = some (.ref f_law_pick)
  b_law_pick : Binds K fd_law_pick ["_law_state", "_law_some"] []
  f_law_reserved : Addr
  fd_law_reserved : FuncData
  F_law_reserved : Fun K "_law_reserved" "_law_reserved" s_law_reserved f_law_reserved fd_law_reserved
  g_law_reserved : mg "_law_reserved" = some (.ref f_law_reserved)
  b_law_reserved : Binds K fd_law_reserved [] []
  f_law_told : Addr
  fd_law_told : FuncData
  F_law_told : Fun K "_law_told" "_law_told" s_law_told f_law_told fd_law_told
  g_law_told : mg "_law_told" = some (.ref f_law_told)
  b_law_told : Binds K fd_law_told ["_law_text"] []
  f_law_near : Addr
  fd_law_near : FuncData
  F_law_near : Fun K "_law_near" "_law_near" s_law_near f_law_near fd_law_near
  g_law_near : mg "_law_near" = some (.ref f_law_near)
  b_law_near : Binds K fd_law_near ["_law_state"] []
  f_law_item_line : Addr
  fd_law_item_line : FuncData
  F_law_item_line : Fun K "_law_item_line" "_law_item_line" s_law_item_line f_law_item_line fd_law_item_line
  g_law_item_line : mg "_law_item_line" = some (.ref f_law_item_line)
  b_law_item_line : Binds K fd_law_item_line ["_law_state"] []
  f_law_row_line : Addr
  fd_law_row_line : FuncData
  F_law_row_line : Fun K "_law_row_line" "_law_row_line" s_law_row_line f_law_row_line fd_law_row_line
  g_law_row_line : mg "_law_row_line" = some (.ref f_law_row_line)
  b_law_row_line : Binds K fd_law_row_line ["_law_state"] []
  f_law_block_line : Addr
  fd_law_block_line : FuncData
  F_law_block_line : Fun K "_law_block_line" "_law_block_line" s_law_block_line f_law_block_line fd_law_block_line
  g_law_block_line : mg "_law_block_line" = some (.ref f_law_block_line)
  b_law_block_line : Binds K fd_law_block_line ["_law_state"] []
  f_law : Addr
  fd_law : FuncData
  F_law : Fun K "law" "law" s_law f_law fd_law
  g_law : mg "law" = some (.ref f_law)
  b_law : Binds K fd_law ["_law_script"] []
  c_LETTERS : ∃ t, mg "LETTERS" = some (.str "abcdefghijklmnopqrstuvwxyz" t)
  c_SIGNS : ∃ t, mg "SIGNS" = some (.str "abcdefghijklmnopqrstuvwxyz0123456789_" t)
  c_MOST_SIGNS : ∃ t, mg "MOST_SIGNS" = some (.int 8 t)
  a_RESERVED : Addr
  c_RESERVED : mg "RESERVED" = some (.ref a_RESERVED)
  q_RESERVED : ∀ H, SqT K H a_RESERVED [V.str "as", V.str "ask", V.str "call", V.str "def", V.str "each", V.str "else", V.str "entry", V.str "except", V.str "fail", V.str "if", V.str "in", V.str "let", V.str "offer", V.str "return", V.str "set", V.str "table", V.str "there", V.str "try", V.str "use"]
  c_MOST_PARTS : ∃ t, mg "MOST_PARTS" = some (.int 4 t)
  c_MOST_GIVEN : ∃ t, mg "MOST_GIVEN" = some (.int 3 t)
  c_MOST_PAIRS : ∃ t, mg "MOST_PAIRS" = some (.int 12 t)
  c_MOST_LEVELS : ∃ t, mg "MOST_LEVELS" = some (.int 4 t)
  c_STEP : ∃ t, mg "STEP" = some (.int 4 t)
  a_BINDERS : Addr
  c_BINDERS : mg "BINDERS" = some (.ref a_BINDERS)
  q_BINDERS : ∀ H, SqT K H a_BINDERS [V.str "use", V.str "set", V.str "table", V.str "def"]
  a_OPENERS : Addr
  c_OPENERS : mg "OPENERS" = some (.ref a_OPENERS)
  q_OPENERS : ∀ H, SqT K H a_OPENERS [V.str "def", V.str "if", V.str "there", V.str "each", V.str "try"]
  a_SECONDS : Addr
  c_SECONDS : mg "SECONDS" = some (.ref a_SECONDS)
  es_SECONDS : Array DictEntry
  nn_SECONDS : Nat
  l_SECONDS : K.lookup a_SECONDS = some ⟨.type "dict", none, .dict es_SECONDS nn_SECONDS, #[]⟩
  lo_SECONDS : (a_SECONDS == sysModules) = false
  k_SECONDS_0 : ∃ t, PySem.W.nsIn K a_SECONDS "if" = some (some (.str "else:" t))
  k_SECONDS_1 : ∃ t, PySem.W.nsIn K a_SECONDS "there" = some (some (.str "else:" t))
  k_SECONDS_2 : ∃ t, PySem.W.nsIn K a_SECONDS "try" = some (some (.str "except:" t))
  m_SECONDS_0 : PySem.W.nsIn K a_SECONDS "def" = some none
  m_SECONDS_1 : PySem.W.nsIn K a_SECONDS "each" = some none
  a_SECOND_LINES : Addr
  c_SECOND_LINES : mg "SECOND_LINES" = some (.ref a_SECOND_LINES)
  q_SECOND_LINES : ∀ H, SqT K H a_SECOND_LINES [V.str "else:", V.str "except:"]
  z_super : mg "super" = none
  z_isinstance : mg "isinstance" = none
  z_str : mg "str" = none
  z_all : mg "all" = none
  z_len : mg "len" = none
  z_tuple : mg "tuple" = none
  z_divmod : mg "divmod" = none
  z_enumerate : mg "enumerate" = none
  z_list : mg "list" = none
  z_int : mg "int" = none
  z_max : mg "max" = none
  z_range : mg "range" = none
  z_min : mg "min" = none
  z_repr : mg "repr" = none
  C_Scanner : Addr
  gC_Scanner : mg "Scanner" = some (.ref C_Scanner)
  cl_Scanner : Cls K C_Scanner
  sf_Scanner : PySem.W.selfFirst K C_Scanner = true
  ih_Scanner : PySem.W.findIn K (.ref C_Scanner) "__class__" = some (some (.builtin "object.__class__"))
  in_Scanner : PySem.W.specialIn K (.builtin "object.__class__") "__get__" = some (some (.builtin "getset_descriptor.__get__"))
  it_Scanner : PySem.W.takesIn K (.builtin "object.__class__") = some true
  im_Scanner : PySem.W.mroIn K C_Scanner (.type "object") = some true
  ne_Scanner : PySem.W.findIn K (.ref C_Scanner) "__ne__" = some (some (.builtin "object.__ne__"))
  ty_Scanner : PySem.W.typeIn K (.ref C_Scanner) = some (.type "type")
  at_Scanner_line : NoAttr K C_Scanner "line"
  at_Scanner_spot : NoAttr K C_Scanner "spot"
  f_Scanner_init : Addr
  fd_Scanner_init : FuncData
  F_Scanner_init : Fun K "__init__" "Scanner.__init__" s_Scanner_init f_Scanner_init fd_Scanner_init
  m_Scanner_init : Meth K C_Scanner "__init__" f_Scanner_init
  mk_Scanner : Mk K C_Scanner f_Scanner_init
  b_Scanner_init : Binds K fd_Scanner_init ["self", "line"] []
  f_Scanner_rest : Addr
  fd_Scanner_rest : FuncData
  F_Scanner_rest : Fun K "rest" "Scanner.rest" s_Scanner_rest f_Scanner_rest fd_Scanner_rest
  m_Scanner_rest : Meth K C_Scanner "rest" f_Scanner_rest
  b_Scanner_rest : Binds K fd_Scanner_rest ["self"] []
  f_Scanner_take : Addr
  fd_Scanner_take : FuncData
  F_Scanner_take : Fun K "take" "Scanner.take" s_Scanner_take f_Scanner_take fd_Scanner_take
  m_Scanner_take : Meth K C_Scanner "take" f_Scanner_take
  b_Scanner_take : Binds K fd_Scanner_take ["self", "signs"] []
  f_Scanner_word : Addr
  fd_Scanner_word : FuncData
  F_Scanner_word : Fun K "word" "Scanner.word" s_Scanner_word f_Scanner_word fd_Scanner_word
  m_Scanner_word : Meth K C_Scanner "word" f_Scanner_word
  b_Scanner_word : Binds K fd_Scanner_word ["self"] []
  f_Scanner_next_name : Addr
  fd_Scanner_next_name : FuncData
  F_Scanner_next_name : Fun K "next_name" "Scanner.next_name" s_Scanner_next_name f_Scanner_next_name fd_Scanner_next_name
  m_Scanner_next_name : Meth K C_Scanner "next_name" f_Scanner_next_name
  b_Scanner_next_name : Binds K fd_Scanner_next_name ["self"] []
  f_Scanner_quoted : Addr
  fd_Scanner_quoted : FuncData
  F_Scanner_quoted : Fun K "quoted" "Scanner.quoted" s_Scanner_quoted f_Scanner_quoted fd_Scanner_quoted
  m_Scanner_quoted : Meth K C_Scanner "quoted" f_Scanner_quoted
  b_Scanner_quoted : Binds K fd_Scanner_quoted ["self", "ahead", "behind"] []
  f_Scanner_part : Addr
  fd_Scanner_part : FuncData
  F_Scanner_part : Fun K "part" "Scanner.part" s_Scanner_part f_Scanner_part fd_Scanner_part
  m_Scanner_part : Meth K C_Scanner "part" f_Scanner_part
  b_Scanner_part : Binds K fd_Scanner_part ["self"] []
  f_Scanner_expr : Addr
  fd_Scanner_expr : FuncData
  F_Scanner_expr : Fun K "expr" "Scanner.expr" s_Scanner_expr f_Scanner_expr fd_Scanner_expr
  m_Scanner_expr : Meth K C_Scanner "expr" f_Scanner_expr
  b_Scanner_expr : Binds K fd_Scanner_expr ["self"] []
  f_Scanner_built : Addr
  fd_Scanner_built : FuncData
  F_Scanner_built : Fun K "built" "Scanner.built" s_Scanner_built f_Scanner_built fd_Scanner_built
  m_Scanner_built : Meth K C_Scanner "built" f_Scanner_built
  b_Scanner_built : Binds K fd_Scanner_built ["self"] []
  f_Scanner_target : Addr
  fd_Scanner_target : FuncData
  F_Scanner_target : Fun K "target" "Scanner.target" s_Scanner_target f_Scanner_target fd_Scanner_target
  m_Scanner_target : Meth K C_Scanner "target" f_Scanner_target
  b_Scanner_target : Binds K fd_Scanner_target ["self"] []
  f_Scanner_listed : Addr
  fd_Scanner_listed : FuncData
  F_Scanner_listed : Fun K "listed" "Scanner.listed" s_Scanner_listed f_Scanner_listed fd_Scanner_listed
  m_Scanner_listed : Meth K C_Scanner "listed" f_Scanner_listed
  b_Scanner_listed : Binds K fd_Scanner_listed ["self", "by_name", "end"] []
  f_Scanner_call : Addr
  fd_Scanner_call : FuncData
  F_Scanner_call : Fun K "call" "Scanner.call" s_Scanner_call f_Scanner_call fd_Scanner_call
  m_Scanner_call : Meth K C_Scanner "call" f_Scanner_call
  b_Scanner_call : Binds K fd_Scanner_call ["self", "into"] []
  f_Scanner_let : Addr
  fd_Scanner_let : FuncData
  F_Scanner_let : Fun K "let" "Scanner.let" s_Scanner_let f_Scanner_let fd_Scanner_let
  m_Scanner_let : Meth K C_Scanner "let" f_Scanner_let
  b_Scanner_let : Binds K fd_Scanner_let ["self"] []
  f_Scanner_choice : Addr
  fd_Scanner_choice : FuncData
  F_Scanner_choice : Fun K "choice" "Scanner.choice" s_Scanner_choice f_Scanner_choice fd_Scanner_choice
  m_Scanner_choice : Meth K C_Scanner "choice" f_Scanner_choice
  b_Scanner_choice : Binds K fd_Scanner_choice ["self"] []
  f_Scanner_statement : Addr
  fd_Scanner_statement : FuncData
  F_Scanner_statement : Fun K "statement" "Scanner.statement" s_Scanner_statement f_Scanner_statement fd_Scanner_statement
  m_Scanner_statement : Meth K C_Scanner "statement" f_Scanner_statement
  b_Scanner_statement : Binds K fd_Scanner_statement ["self"] []
  f_Scanner_used : Addr
  fd_Scanner_used : FuncData
  F_Scanner_used : Fun K "used" "Scanner.used" s_Scanner_used f_Scanner_used fd_Scanner_used
  m_Scanner_used : Meth K C_Scanner "used" f_Scanner_used
  b_Scanner_used : Binds K fd_Scanner_used ["self"] []
  f_Scanner_offered : Addr
  fd_Scanner_offered : FuncData
  F_Scanner_offered : Fun K "offered" "Scanner.offered" s_Scanner_offered f_Scanner_offered fd_Scanner_offered
  m_Scanner_offered : Meth K C_Scanner "offered" f_Scanner_offered
  b_Scanner_offered : Binds K fd_Scanner_offered ["self"] []
  f_Scanner_keyed : Addr
  fd_Scanner_keyed : FuncData
  F_Scanner_keyed : Fun K "keyed" "Scanner.keyed" s_Scanner_keyed f_Scanner_keyed fd_Scanner_keyed
  m_Scanner_keyed : Meth K C_Scanner "keyed" f_Scanner_keyed
  b_Scanner_keyed : Binds K fd_Scanner_keyed ["self"] []
  f_Scanner_defined : Addr
  fd_Scanner_defined : FuncData
  F_Scanner_defined : Fun K "defined" "Scanner.defined" s_Scanner_defined f_Scanner_defined fd_Scanner_defined
  m_Scanner_defined : Meth K C_Scanner "defined" f_Scanner_defined
  b_Scanner_defined : Binds K fd_Scanner_defined ["self"] []
  f_Scanner_item : Addr
  fd_Scanner_item : FuncData
  F_Scanner_item : Fun K "item" "Scanner.item" s_Scanner_item f_Scanner_item fd_Scanner_item
  m_Scanner_item : Meth K C_Scanner "item" f_Scanner_item
  b_Scanner_item : Binds K fd_Scanner_item ["self"] []
  C_Frame : Addr
  gC_Frame : mg "Frame" = some (.ref C_Frame)
  cl_Frame : Cls K C_Frame
  sf_Frame : PySem.W.selfFirst K C_Frame = true
  ih_Frame : PySem.W.findIn K (.ref C_Frame) "__class__" = some (some (.builtin "object.__class__"))
  in_Frame : PySem.W.specialIn K (.builtin "object.__class__") "__get__" = some (some (.builtin "getset_descriptor.__get__"))
  it_Frame : PySem.W.takesIn K (.builtin "object.__class__") = some true
  im_Frame : PySem.W.mroIn K C_Frame (.type "object") = some true
  ne_Frame : PySem.W.findIn K (.ref C_Frame) "__ne__" = some (some (.builtin "object.__ne__"))
  ty_Frame : PySem.W.typeIn K (.ref C_Frame) = some (.type "type")
  at_Frame_head : NoAttr K C_Frame "head"
  at_Frame_blocks : NoAttr K C_Frame "blocks"
  f_Frame_init : Addr
  fd_Frame_init : FuncData
  F_Frame_init : Fun K "__init__" "Frame.__init__" s_Frame_init f_Frame_init fd_Frame_init
  m_Frame_init : Meth K C_Frame "__init__" f_Frame_init
  mk_Frame : Mk K C_Frame f_Frame_init
  b_Frame_init : Binds K fd_Frame_init ["self", "head"] []
  f_Frame_may_go_on : Addr
  fd_Frame_may_go_on : FuncData
  F_Frame_may_go_on : Fun K "may_go_on" "Frame.may_go_on" s_Frame_may_go_on f_Frame_may_go_on fd_Frame_may_go_on
  m_Frame_may_go_on : Meth K C_Frame "may_go_on" f_Frame_may_go_on
  b_Frame_may_go_on : Binds K fd_Frame_may_go_on ["self", "line"] []
  f_Frame_is_complete : Addr
  fd_Frame_is_complete : FuncData
  F_Frame_is_complete : Fun K "is_complete" "Frame.is_complete" s_Frame_is_complete f_Frame_is_complete fd_Frame_is_complete
  m_Frame_is_complete : Meth K C_Frame "is_complete" f_Frame_is_complete
  b_Frame_is_complete : Binds K fd_Frame_is_complete ["self"] []
  f_Frame_whole : Addr
  fd_Frame_whole : FuncData
  F_Frame_whole : Fun K "whole" "Frame.whole" s_Frame_whole f_Frame_whole fd_Frame_whole
  m_Frame_whole : Meth K C_Frame "whole" f_Frame_whole
  b_Frame_whole : Binds K fd_Frame_whole ["self"] []
  C_Reader : Addr
  gC_Reader : mg "Reader" = some (.ref C_Reader)
  cl_Reader : Cls K C_Reader
  sf_Reader : PySem.W.selfFirst K C_Reader = true
  ih_Reader : PySem.W.findIn K (.ref C_Reader) "__class__" = some (some (.builtin "object.__class__"))
  in_Reader : PySem.W.specialIn K (.builtin "object.__class__") "__get__" = some (some (.builtin "getset_descriptor.__get__"))
  it_Reader : PySem.W.takesIn K (.builtin "object.__class__") = some true
  im_Reader : PySem.W.mroIn K C_Reader (.type "object") = some true
  ne_Reader : PySem.W.findIn K (.ref C_Reader) "__ne__" = some (some (.builtin "object.__ne__"))
  ty_Reader : PySem.W.typeIn K (.ref C_Reader) = some (.type "type")
  at_Reader_kept : NoAttr K C_Reader "kept"
  at_Reader_bound : NoAttr K C_Reader "bound"
  at_Reader_frames : NoAttr K C_Reader "frames"
  f_Reader_init : Addr
  fd_Reader_init : FuncData
  F_Reader_init : Fun K "__init__" "Reader.__init__" s_Reader_init f_Reader_init fd_Reader_init
  m_Reader_init : Meth K C_Reader "__init__" f_Reader_init
  mk_Reader : Mk K C_Reader f_Reader_init
  b_Reader_init : Binds K fd_Reader_init ["self"] []
  f_Reader_keep : Addr
  fd_Reader_keep : FuncData
  F_Reader_keep : Fun K "keep" "Reader.keep" s_Reader_keep f_Reader_keep fd_Reader_keep
  m_Reader_keep : Meth K C_Reader "keep" f_Reader_keep
  b_Reader_keep : Binds K fd_Reader_keep ["self", "row"] []
  f_Reader_shut : Addr
  fd_Reader_shut : FuncData
  F_Reader_shut : Fun K "shut" "Reader.shut" s_Reader_shut f_Reader_shut fd_Reader_shut
  m_Reader_shut : Meth K C_Reader "shut" f_Reader_shut
  b_Reader_shut : Binds K fd_Reader_shut ["self", "level"] []
  f_Reader_go_on : Addr
  fd_Reader_go_on : FuncData
  F_Reader_go_on : Fun K "go_on" "Reader.go_on" s_Reader_go_on f_Reader_go_on fd_Reader_go_on
  m_Reader_go_on : Meth K C_Reader "go_on" f_Reader_go_on
  b_Reader_go_on : Binds K fd_Reader_go_on ["self", "line", "level"] []
  f_Reader_take_head : Addr
  fd_Reader_take_head : FuncData
  F_Reader_take_head : Fun K "take_head" "Reader.take_head" s_Reader_take_head f_Reader_take_head fd_Reader_take_head
  m_Reader_take_head : Meth K C_Reader "take_head" f_Reader_take_head
  b_Reader_take_head : Binds K fd_Reader_take_head ["self", "head", "level"] []
  f_Reader_take : Addr
  fd_Reader_take : FuncData
  F_Reader_take : Fun K "take" "Reader.take" s_Reader_take f_Reader_take fd_Reader_take
  m_Reader_take : Meth K C_Reader "take" f_Reader_take
  b_Reader_take : Binds K fd_Reader_take ["self", "line"] []
  C_SpareError : Addr
  gC_SpareError : mg "SpareError" = some (.ref C_SpareError)
  x_SpareError : ExcC K C_SpareError
  xf_SpareError : XfC K C_SpareError
  kC_SpareError : PySem.W.keepIn K (.ref C_SpareError) = true
  ty_SpareError : PySem.W.typeIn K (.ref C_SpareError) = some (.type "type")
  m_SpareError : PySem.W.exmOne K (.ref C_SpareError) (.ref C_SpareError) = some true
  C_BadText : Addr
  gC_BadText : mg "BadText" = some (.ref C_BadText)
  x_BadText : ExcC K C_BadText
  xf_BadText : XfC K C_BadText
  kC_BadText : PySem.W.keepIn K (.ref C_BadText) = true
  ty_BadText : PySem.W.typeIn K (.ref C_BadText) = some (.type "type")
  m_BadText : PySem.W.exmOne K (.ref C_BadText) (.ref C_SpareError) = some true
  fI_BadText : Addr
  e_BadText : ∀ P : Program, PrOk P → Err1 P K mg "BadText" C_BadText fI_BadText s_BadText_init "BadText.__init__" "line"
  no_BadText_line : PySem.W.findIn K (.ref C_BadText) "line" = some none
/-- the keys of written dicts have their hashes -/
def DcOk {K : PySem.W.Frag} {mg : Str → Option Value} (w : World) (T : Txt K mg) : Prop := PySem.W.KeysLit w.params T.es_SECONDS.toList
end Sn

/-! ## The drawing state of the laws: _law_begun, _law_mixed, _law_take, _law_pick. What is drawn is not told, only its bounds -/
namespace Sn
open PySem PySem.Spec PyProof.Rows L2

/-- the state's dict -/
def drK (g c : Addr) (l t : Int) : List (Key × V) :=
  [(Sum.inr "great", .ref g), (Sum.inr "cells", .ref c), (Sum.inr "left", .int l), (Sum.inr "turn", .int t)]
/-- the drawing state stands at d, its two lists at g and c; at most m numbers were mixed so far -/
structure Dr (H : Hp) (d g c : Addr) (m : Nat) : Prop where
  di : ∃ l t : Int, 0 ≤ t ∧ t ≤ m ∧ H d = some (.dK (drK g c l t))
  gr : ∃ ns : List Int, H g = some (.lst (ns.map V.int))
  ce : ∃ ns : List Int, H c = some (.lst (ns.map V.int))
  gc : g ≠ c
theorem Dr.mono {H : Hp} {d g c : Addr} {m n : Nat} (D : Dr H d g c m) (h : m ≤ n) : Dr H d g c n := by
  obtain ⟨l, t, h0, h1, h2⟩ := D.di
  exact ⟨⟨l, t, h0, by omega, h2⟩, D.gr, D.ce, D.gc⟩
theorem Dr.dg {H : Hp} {d g c : Addr} {m : Nat} (D : Dr H d g c m) : d ≠ g := by
  obtain ⟨l, t, _, _, h2⟩ := D.di
  obtain ⟨ns, h3⟩ := D.gr
  exact ne_of h2 h3 (by intro z; cases z)
theorem Dr.dc {H : Hp} {d g c : Addr} {m : Nat} (D : Dr H d g c m) : d ≠ c := by
  obtain ⟨l, t, _, _, h2⟩ := D.di
  obtain ⟨ns, h3⟩ := D.ce
  exact ne_of h2 h3 (by intro z; cases z)
/-- all that was tracked stands, but the state's dict and its first list -/
def Mv (d g : Addr) (H H' : Hp) : Prop := ∀ b o, b ≠ d → b ≠ g → H b = some o → H' b = some o
theorem Mv.refl (d g : Addr) (H : Hp) : Mv d g H H := fun _ _ _ _ e => e
theorem Mv.trans {d g : Addr} {H H1 H2 : Hp} (a : Mv d g H H1) (b : Mv d g H1 H2) : Mv d g H H2 :=
  fun x o h1 h2 e => b x o h1 h2 (a x o h1 h2 e)
theorem Mv.same {d g : Addr} {H H1 : Hp} (a : Same H H1) : Mv d g H H1 := fun x o _ _ e => a x o e
theorem Mv.upd {d g : Addr} {H : Hp} {o : HO} : Mv d g H (upd H d o) := fun b x h1 _ e => by rw [upd_ne h1]; exact e
theorem same_new {H : Hp} {p : Addr} {o : HO} (h : H p = none) : Same H (upd H p o) := fun b x e => by
  rw [upd_ne (ne_of_none e h)]
  exact e
/-- the state stays where all that is tracked stays -/
theorem Dr.same {H H' : Hp} {d g c : Addr} {m : Nat} (D : Dr H d g c m) (s : Same H H') : Dr H' d g c m := by
  obtain ⟨⟨l, t, h0, h1, h2⟩, ⟨a, h3⟩, ⟨b, h4⟩, h5⟩ := D
  exact ⟨⟨l, t, h0, h1, s _ _ h2⟩, ⟨a, s _ _ h3⟩, ⟨b, s _ _ h4⟩, h5⟩
theorem get_great (g c : Addr) (l t : Int) : valV (drK g c l t) (Sum.inr "great" : Key) = some (.ref g) := by kernel_rfl
theorem get_cells (g c : Addr) (l t : Int) : valV (drK g c l t) (Sum.inr "cells" : Key) = some (.ref c) := by kernel_rfl
theorem get_left (g c : Addr) (l t : Int) : valV (drK g c l t) (Sum.inr "left" : Key) = some (.int l) := by kernel_rfl
theorem get_turn (g c : Addr) (l t : Int) : valV (drK g c l t) (Sum.inr "turn" : Key) = some (.int t) := by kernel_rfl
theorem put_left (g c : Addr) (l t x : Int) : putK (drK g c l t) (Sum.inr "left" : Key) (.int x) = drK g c x t := by kernel_rfl
theorem put_turn (g c : Addr) (l t x : Int) : putK (drK g c l t) (Sum.inr "turn" : Key) (.int x) = drK g c l x := by kernel_rfl
theorem dget_of {H : Hp} {d : Addr} {kvs : List (Key × V)} {x : Str} {v : V} (h : H d = some (.dK kvs)) (e : valV kvs (Sum.inr x : Key) = some v) :
    DGet H d (.str x) (some v) := .inl ⟨kvs, Sum.inr x, .inl h, rfl, e.symm⟩
theorem dput_of {H : Hp} {d : Addr} {kvs kvs' : List (Key × V)} {x : Str} {v : V} (h : H d = some (.dK kvs)) (hl : kvs.length ≤ 1000) (e : putK kvs (Sum.inr x : Key) v = kvs') :
    DPut H d (.str x) v (upd H d (.dK kvs')) := .inl ⟨kvs, Sum.inr x, h, rfl, small1000 hl, by rw [e]⟩

theorem dp_ints {K : PySem.W.Frag} {H : Hp} : ∀ ns : List Int, DpAll K H (ns.map V.int) (ns.map PyData.int)
  | [] => .nil
  | n :: r => .cons (.int n) (dp_ints r)
theorem ix0 (x : Int) (r : List Int) : seqIndex? 0 ((x :: r).map V.int).length = some 0 := by
  rw [List.map_cons, List.length_cons]
  simp [seqIndex?]
theorem small4 (g c : Addr) (l t : Int) : (drK g c l t).length ≤ 1000 := by show 4 ≤ 1000; decide
def primes : List Int := [2147483629, 2147483587, 2147483579, 2147483563, 2147483549, 2147483543]
theorem primes_lo : ∀ q ∈ primes, 2147483543 ≤ q := by decide
theorem primes_hi : ∀ q ∈ primes, q ≤ 2147483629 := by decide
section
variable {P : Program} {w : World} {K : PySem.W.Frag} {mg : Str → Option Value} {base : Heap}
/-- _law_mixed: some number; one more was mixed -/
def spMixed : Sp := fun vs H Q _ => ∃ (d g c : Addr) (m : Nat), vs = [.ref d] ∧ Dr H d g c m ∧ m ≤ 1000000000 ∧
  ∀ (r : Int) (H' : Hp), Dr H' d g c (m + 1) → H' g = H g → Mv d g H H' → Q (.int r) H'
theorem ok_mixed (T : Txt K mg) : FnOk P w K mg base CX0 1 T.f_law_mixed T.fd_law_mixed ["_law_state"] spMixed := by
  refine T.F_law_mixed.ok sc_law_mixed (fun vs H Q E h => ?_) (fun cdv A outer s H vs Q E hr h => ?_)
  · obtain ⟨d, g, c, m, rfl, _⟩ := h
    rfl
  · obtain ⟨d, g, c, m, rfl, D, hm, k⟩ := h
    have hu := hu_of hr
    refine ⟨_, pss_cons (ps_dput hu (pv 0) pe_str (pe_op op_add (pe_dget hu (pv 0) pe_str (fun _ _ => rfl)) pe_int) rfl)
      (pss_cons (ps_set (i := 1) sc_law_mixed.nd rfl (Or.inl rfl) pe_int)
      (pss_cons (ps_for PassesOwn.never rfl (pi_list (pe_lst (pa_cons pe_int (pa_cons pe_int (pa_cons pe_int (pa_cons pe_int (pa_cons pe_int (pa_cons pe_int pa_nil)))))))) (pg_name (i := 2) sc_law_mixed.nd rfl (Or.inl rfl))
        (pss_cons (ps_set (i := 3) sc_law_mixed.nd rfl (Or.inl rfl) (pe_op op_add (pe_op op_mul pe_int (pe_dget hu (pv 0) pe_str (fun _ _ => rfl))) (pe_op op_fdivN (pv 2) pe_int)))
        (pss_cons (ps_for PassesOwn.never rfl (pi_list (pe_dget hu (pv 0) pe_str (fun _ _ => rfl))) (pg_name (i := 4) sc_law_mixed.nd rfl (Or.inl rfl))
          (pss_one (ps_set (i := 3) sc_law_mixed.nd rfl (Or.inl rfl) (pe_op op_modN (pe_callTy call_int1 (by rfl) T.z_int (by decide +kernel) (pa_cons (pe_op op_add (pe_op op_mul (pv 3) pe_int) (pv 4)) pa_nil)) (pv 2)))))
        (pss_one (ps_set (i := 1) sc_law_mixed.nd rfl (Or.inl rfl) (pe_op op_add (pe_op op_mul (pv 1) pe_int) (pe_op op_modN (pe_callTy call_int1 (by rfl) T.z_int (by decide +kernel) (pa_cons (pe_op op_pow (pv 3) pe_int) pa_nil)) (pv 2))))))))
      (pss_one (ps_ret (pv 1))))), ?_⟩
    obtain ⟨⟨l, t, h0, h1, hd⟩, ⟨gs, hg⟩, ⟨cs, hc⟩, hgc⟩ := id D
    refine ⟨_, rfl, d, _, rfl, dget_of hd (get_turn g c l t), _, _, rfl, rfl, _, rfl, d, _, rfl, dput_of hd (small4 g c l t) (put_turn g c l t _), ?_⟩
    refine ⟨(by show 6 ≤ sizeLine; decide), fun p hp => ?_⟩
    have npd : p ≠ d := fun e => by rw [e, upd_same] at hp; cases hp
    have hp0 : H p = none := by rw [upd_ne npd] at hp; exact hp
    have ncd : c ≠ d := fun e => by rw [e, hd] at hc; cases hc
    have ngd : g ≠ d := fun e => by rw [e, hd] at hg; cases hg
    generalize eH2 : upd (upd H d (.dK (drK g c l (t + 1)))) p (.lst [.int 2147483629, .int 2147483587, .int 2147483579, .int 2147483563, .int 2147483549, .int 2147483543]) = H2
    have fd : H2 d = some (.dK (drK g c l (t + 1))) := by rw [← eH2, upd_ne npd.symm, upd_same]
    have fc : H2 c = some (.lst (cs.map V.int)) := by rw [← eH2, upd_ne (ne_of_none hc hp0), upd_ne ncd]; exact hc
    have fg : H2 g = some (.lst (gs.map V.int)) := by rw [← eH2, upd_ne (ne_of_none hg hp0), upd_ne ngd]; exact hg
    have fp : H2 p = some (.lst (primes.map V.int)) := by rw [← eH2, upd_same]; rfl
    refine ⟨p, rfl, ⟨_, .inl (.inl fp)⟩, for_list (K := K) (a := p) (xs := primes.map V.int)
      (fun i σ H3 => ∃ (v2 v3 v4 : Option V) (f : Int), H2 = H3 ∧ σ = [some (.ref d), some (.int f), v2, v3, v4]) ⟨none, none, none, 0, rfl, rfl⟩ (fun i σ H3 _ ⟨_, _, _, _, e, _⟩ => by rw [← e]; exact .inl (.inl fp)) ?_ ?_⟩
    · rintro i y σ H3 hi ⟨v2, v3, v4, f, rfl, rfl⟩
      obtain ⟨q, rfl, q1, q2⟩ : ∃ q : Int, y = .int q ∧ 2147483543 ≤ q ∧ q ≤ 2147483629 := by
        have hm : y ∈ primes.map V.int := List.mem_of_getElem? hi
        obtain ⟨q, hq, rfl⟩ := List.mem_map.mp hm
        exact ⟨q, rfl, primes_lo q hq, primes_hi q hq⟩
      -- blend = 69997 * turn + prime // 11
      refine ⟨_, rfl, d, _, rfl, dget_of fd (get_turn g c l (t + 1)), _, _, rfl, rfl, .inl ⟨by decide, by decide⟩, _, rfl, _, _, rfl, rfl, ⟨by decide, by decide⟩, _, _, rfl, rfl, ?_⟩
      have b0 : 0 ≤ 69997 * (t + 1) + Int.fdiv q 11 ∧ 69997 * (t + 1) + Int.fdiv q 11 < 9223372036854775808 := by
        rw [Int.fdiv_eq_ediv_of_nonneg _ (by decide)]
        omega
      -- for cell in state["cells"]
      refine ⟨_, rfl, d, _, rfl, dget_of fd (get_cells g c l (t + 1)), c, rfl, ⟨_, .inl (.inl fc)⟩, for_list (K := K) (a := c) (xs := cs.map V.int)
        (fun i σ H3 => ∃ (v4 : Option V) (b : Int), H2 = H3 ∧ (0 ≤ b ∧ b < 9223372036854775808) ∧ σ = [some (.ref d), some (.int f), some (.int q), some (.int b), v4]) ⟨v4, _, rfl, b0, rfl⟩
        (fun i σ H3 _ ⟨_, _, e, _, _⟩ => by rw [← e]; exact .inl (.inl fc)) ?_ ?_⟩
      · rintro j x σ H3 hj ⟨v4, b, rfl, hb, rfl⟩
        obtain ⟨z, hz, rfl⟩ := List.mem_map.mp (List.mem_of_getElem? hj)
        refine ⟨_, rfl, _, _, rfl, rfl, .inr ⟨by decide, by decide⟩, _, rfl, _, _, rfl, rfl, .inl ⟨_, rfl, _, rfl, _, _, rfl, rfl, (by omega), ?_⟩⟩
        refine ⟨_, _, rfl, ?_, rfl⟩
        rw [Int.fmod_eq_emod_of_nonneg _ (by omega)]
        have e1 := Int.emod_nonneg (b * 48271 + z) (b := q) (by omega)
        have e2 := Int.emod_lt_of_pos (b * 48271 + z) (b := q) (by omega)
        omega
      · rintro σ H3 ⟨v4, b, rfl, hb, rfl⟩
        refine ⟨_, rfl, _, _, rfl, rfl, .inr ⟨by decide, by decide⟩, _, rfl, _, _, rfl, rfl, ⟨by decide, by decide, by omega⟩, .inl ⟨_, rfl, _, rfl, _, _, rfl, rfl, (by omega), _, _, rfl, rfl, ?_⟩⟩
        exact ⟨_, _, _, _, rfl, rfl⟩
    · rintro σ H3 ⟨v2, v3, v4, f, rfl, rfl⟩
      refine ⟨_, rfl, k f _ ⟨⟨l, t + 1, by omega, by omega, fd⟩, ⟨gs, fg⟩, ⟨cs, fc⟩, hgc⟩ (fg.trans hg.symm) fun b o h1 h2 e => ?_⟩
      rw [← eH2, upd_ne (ne_of_none e hp0), upd_ne h1]
      exact e
/-- _law_take: some number from 0 to size - 1 -/
def spTake : Sp := fun vs H Q _ => ∃ (d g c : Addr) (m : Nat) (n : Int), vs = [.ref d, .int n] ∧ Dr H d g c m ∧ m ≤ 1000000000 ∧ 0 < n ∧ n < 1000000000 ∧
  ∀ (r : Int) (H' : Hp), 0 ≤ r → r < n → Dr H' d g c (m + 1) → Mv d g H H' → Q (.int r) H'
theorem ok_take (T : Txt K mg) : FnOk P w K mg base CX0 2 T.f_law_take T.fd_law_take ["_law_state", "_law_size"] spTake := by
  have GM : FnOk P w K mg base CX0 1 T.f_law_mixed T.fd_law_mixed ["_law_state"] spMixed := ok_mixed T
  refine T.F_law_take.ok sc_law_take (fun vs H Q E h => ?_) (fun cdv A outer s H vs Q E hr h => ?_)
  · obtain ⟨d, g, c, m, n, rfl, _⟩ := h
    rfl
  · obtain ⟨d, g, c, m, n, rfl, D, hm, n0, n1, k⟩ := h
    have hu := hu_of hr
    refine ⟨_, pss_cons (ps_if (pt_cmpR op_eq (pe_dget hu (pv 0) pe_str (fun _ _ => rfl)) pe_int (nomark _))
        (pss_one (ps_dput hu (pv 0) pe_str (pe_ifExp (pt_cmpR (op_neD hr.units) (pe_dget hu (pv 0) pe_str (fun _ _ => rfl)) (pe_lst pa_nil) (nomark _))
          (pe_bm PySem.F.plainAttrs_list PySem.F.slot_list_pop PySem.F.type_list_pop mt_popAt (pe_dget hu (pv 0) pe_str (fun _ _ => rfl)) (pa_cons pe_int pa_nil))
          (pe_call GM hr rfl T.g_law_mixed T.F_law_mixed.kp T.b_law_mixed .nil pass0 (pa_cons (pv 0) pa_nil))) rfl)) pss_nil)
      (pss_cons (ps_set (i := 2) sc_law_take.nd rfl (Or.inl rfl) (pe_op op_modN (pe_callTy call_int1 (by rfl) T.z_int (by decide +kernel) (pa_cons (pe_dget hu (pv 0) pe_str (fun _ _ => rfl)) pa_nil)) (pv 1)))
      (pss_cons (ps_dput hu (pv 0) pe_str (pe_op op_fdivN (pe_dget hu (pv 0) pe_str (fun _ _ => rfl)) (pv 1)) rfl)
      (pss_one (ps_ret (pv 2))))), ?_⟩
    obtain ⟨⟨l, t, h0, h1, hd⟩, ⟨gs, hg⟩, ⟨cs, hc⟩, hgc⟩ := id D
    have ngd : g ≠ d := fun e => by rw [e, hd] at hg; cases hg
    have ncd : c ≠ d := fun e => by rw [e, hd] at hc; cases hc
    refine ⟨_, rfl, d, _, rfl, dget_of hd (get_left g c l t), rfl, _, rfl, ?_⟩
    have tail : ∀ (x y : Int) (H1 : Hp), 0 ≤ y → y ≤ m + 1 → H1 d = some (.dK (drK g c x y)) → (∃ ns : List Int, H1 g = some (.lst (ns.map V.int))) → H1 c = some (.lst (cs.map V.int)) → Mv d g H H1 →
        (0 ≤ Int.fmod x n ∧ Int.fmod x n < n) ∧ Q (.int (Int.fmod x n)) (upd H1 d (.dK (drK g c (Int.fdiv x n) y))) := by
      intro x y H1 y0 y1 e1 e2 e3 mv
      have r0 : 0 ≤ Int.fmod x n ∧ Int.fmod x n < n := by
        rw [Int.fmod_eq_emod_of_nonneg _ (by omega)]
        exact ⟨Int.emod_nonneg _ (by omega), Int.emod_lt_of_pos _ n0⟩
      obtain ⟨ns, e2⟩ := e2
      refine ⟨r0, k _ _ r0.1 r0.2 ⟨⟨_, y, y0, by omega, upd_same⟩, ⟨ns, by rw [upd_ne ngd]; exact e2⟩, ⟨cs, by rw [upd_ne ncd]; exact e3⟩, hgc⟩ (mv.trans Mv.upd)⟩
    refine ite2 (fun _ => ?_) (fun _ => ?_)
    · refine ⟨_, rfl, d, _, rfl, dget_of hd (get_great g c l t), (by show 0 ≤ sizeLine; decide), fun p hp => ?_⟩
      have sp1 : Same H (upd H p (.lst [])) := same_new hp
      refine ⟨_, _, .lst (.inl (.inl (sp1 _ _ hg))) (dp_ints gs), .lst (.inl (.inl upd_same)) .nil, PySem.W.ke_shaped_ints gs, by decide, _, rfl, ?_⟩
      match gs, hg with
      | [], hg =>
        refine iteF ?_
        refine ⟨_, rfl, d, g, c, m, rfl, D.same sp1, hm, fun r H1 D1 eg mv => ?_⟩
        obtain ⟨⟨l1, t1, g0, g1, hd1⟩, ⟨gs1, hg1⟩, ⟨cs1, hc1⟩, _⟩ := id D1
        refine ⟨_, rfl, d, _, rfl, dput_of hd1 (small4 g c l1 t1) (put_left g c l1 t1 r), ?_⟩
        have hc2 : H1 c = some (.lst (cs.map V.int)) := mv c _ ncd hgc.symm (sp1 _ _ hc)
        obtain ⟨r0, z⟩ := tail r t1 (upd H1 d (.dK (drK g c r t1))) g0 (by omega) upd_same ⟨gs1, by rw [upd_ne ngd]; exact hg1⟩ (by rw [upd_ne ncd]; exact hc2) (((Mv.same sp1).trans mv).trans Mv.upd)
        refine ⟨_, rfl, d, _, rfl, dget_of upd_same (get_left g c r t1), .inl ⟨_, rfl, _, rfl, _, _, rfl, rfl, (by omega), ?_⟩⟩
        exact ⟨_, rfl, d, _, rfl, dget_of upd_same (get_left g c r t1), _, rfl, _, _, rfl, rfl, ⟨by omega, by omega⟩, _, rfl, d, _, rfl, dput_of upd_same (small4 g c r t1) (put_left g c r t1 _), _, rfl, z⟩
      | x :: gs, hg =>
        refine iteT ?_
        refine ⟨_, rfl, d, _, rfl, dget_of (sp1 _ _ hd) (get_great g c l t), .inl ⟨rfl, _, .inl (.inl (sp1 _ _ hg))⟩, g, _, 0, 0, _, rfl, rfl, sp1 _ _ hg, by decide, by decide, ix0 _ _, rfl, ?_⟩
        have hd1 : (upd (upd H p (.lst [])) g (.lst (((x :: gs).map V.int).eraseIdx 0))) d = some (.dK (drK g c l t)) := by rw [upd_ne ngd.symm]; exact sp1 _ _ hd
        refine ⟨_, rfl, d, _, rfl, dput_of hd1 (small4 g c l t) (put_left g c l t x), ?_⟩
        obtain ⟨r0, z⟩ := tail x t (upd (upd (upd H p (.lst [])) g (.lst (((x :: gs).map V.int).eraseIdx 0))) d (.dK (drK g c x t))) h0 (by omega) upd_same ⟨gs, by rw [upd_ne ngd, upd_same]; rfl⟩ (by rw [upd_ne ncd, upd_ne hgc.symm]; exact sp1 _ _ hc) (fun b o b1 b2 e => by rw [upd_ne b1, upd_ne b2]; exact sp1 _ _ e)
        refine ⟨_, rfl, d, _, rfl, dget_of upd_same (get_left g c x t), .inl ⟨_, rfl, _, rfl, _, _, rfl, rfl, (by omega), ?_⟩⟩
        exact ⟨_, rfl, d, _, rfl, dget_of upd_same (get_left g c x t), _, rfl, _, _, rfl, rfl, ⟨by omega, by omega⟩, _, rfl, d, _, rfl, dput_of upd_same (small4 g c x t) (put_left g c x t _), _, rfl, z⟩
    · obtain ⟨r0, z⟩ := tail l t H h0 (by omega) hd ⟨gs, hg⟩ hc (Mv.refl _ _ _)
      refine ⟨_, rfl, d, _, rfl, dget_of hd (get_left g c l t), .inl ⟨_, rfl, _, rfl, _, _, rfl, rfl, (by omega), ?_⟩⟩
      exact ⟨_, rfl, d, _, rfl, dget_of hd (get_left g c l t), _, rfl, _, _, rfl, rfl, ⟨by omega, by omega⟩, _, rfl, d, _, rfl, dput_of hd (small4 g c l t) (put_left g c l t _), _, rfl, z⟩
theorem at_int {α : Type} {xs : List α} {r : Int} (h0 : 0 ≤ r) (h1 : r < xs.length) : ∃ v, v ∈ xs ∧ atI xs r = some v := by
  obtain ⟨j, rfl⟩ := Int.eq_ofNat_of_zero_le h0
  have hj : j < xs.length := by omega
  exact ⟨xs[j], List.getElem_mem hj, atI_nat (List.getElem?_eq_getElem hj)⟩
/-- _law_pick: a sign of a text that is not empty, an item of a list that is not empty -/
def spPick : Sp := fun vs H Q _ => ∃ (d g c : Addr) (m : Nat), Dr H d g c m ∧ m ≤ 1000000000 ∧
  ((∃ z : Str, vs = [.ref d, .str z] ∧ 0 < z.length ∧ z.length ≤ 1000 ∧ ∀ (x : Nat) (H' : Hp), x ∈ z.cps.toList → Dr H' d g c (m + 1) → Mv d g H H' → Q (.str ⟨#[x]⟩) H') ∨
   (∃ (p : Addr) (xs : List V), vs = [.ref d, .ref p] ∧ H p = some (.lst xs) ∧ p ≠ g ∧ 0 < xs.length ∧ xs.length ≤ 1000 ∧ ∀ (x : V) (H' : Hp), x ∈ xs → Dr H' d g c (m + 1) → Mv d g H H' → Q x H'))
theorem ok_pick (T : Txt K mg) : FnOk P w K mg base CX0 3 T.f_law_pick T.fd_law_pick ["_law_state", "_law_some"] spPick := by
  have GT : FnOk P w K mg base CX0 2 T.f_law_take T.fd_law_take ["_law_state", "_law_size"] spTake := ok_take T
  refine T.F_law_pick.ok sc_law_pick (fun vs H Q E h => ?_) (fun cdv A outer s H vs Q E hr h => ?_)
  · obtain ⟨d, g, c, m, _, _, ⟨z, rfl, _⟩ | ⟨p, xs, rfl, _⟩⟩ := h
    · rfl
    · rfl
  · obtain ⟨d, g, c, m, D, hm, h⟩ := h
    refine ⟨_, pss_one (ps_ret (pe_ix ix_seq (pv 1) (pe_call GT hr rfl T.g_law_take T.F_law_take.kp T.b_law_take .nil pass0 (pa_cons (pv 0) (pa_cons (pe_callB call_len (by rfl) T.z_len PySem.boot_len (pa_cons (pv 1) pa_nil)) pa_nil))) (fun _ _ => rfl))), ?_⟩
    rcases h with ⟨z, rfl, z0, z1, k⟩ | ⟨p, xs, rfl, hp, npg, z0, z1, k⟩
    · have zs : z.length ≤ sizeLine := Nat.le_of_lt (small1000 z1)
      refine ⟨_, rfl, _, rfl, _, rfl, _, z.length, rfl, ⟨zs, rfl⟩, d, g, c, m, _, rfl, D, hm, by omega, by omega, fun r H' r0 r1 D' mv => ?_⟩
      obtain ⟨x, hx, ex⟩ := at_int (xs := z.cps.toList) r0 (by show r < (z.length : Int); omega)
      exact .inr (.inr ⟨z, r, x, rfl, rfl, zs, ex, k _ H' hx D' mv⟩)
    · refine ⟨_, rfl, _, rfl, _, rfl, _, xs.length, rfl, .inl ⟨xs, .inl (.inl hp), rfl⟩, d, g, c, m, _, rfl, D, hm, by omega, by omega, fun r H' r0 r1 D' mv => ?_⟩
      have npd : p ≠ d := by
        obtain ⟨l, t, _, _, hd⟩ := D.di
        exact ne_of hp hd (by intro z; cases z)
      obtain ⟨x, hx, ex⟩ := at_int (xs := xs) r0 r1
      exact .inl ⟨p, xs, r, x, rfl, rfl, .inl (.inl (mv p _ npd npg hp)), ex, k _ H' hx D' mv⟩
/-- _law_begun: a new state -/
def spBegun (K : PySem.W.Frag) : Sp := fun vs H Q _ => ∃ (a : Addr) (ns : List Int), vs = [.ref a] ∧ SqL K H a (ns.map V.int) ∧ ns.length ≤ 1000 ∧
  ∀ (d g c : Addr) (H' : Hp), H d = none → H g = none → H c = none → Dr H' d g c 0 → Same H H' → Q (.ref d) H'
theorem ok_begun (T : Txt K mg) : FnOk P w K mg base CX0 1 T.f_law_begun T.fd_law_begun ["_law_script"] (spBegun K) := by
  refine T.F_law_begun.ok sc_law_begun (fun vs H Q E h => ?_) (fun cdv A outer s H vs Q E hr h => ?_)
  · obtain ⟨a, ns, rfl, _⟩ := h
    rfl
  · obtain ⟨a, ns, rfl, hS, hl, k⟩ := h
    refine ⟨_, pss_cons (ps_setLc (i := 1) (own := [("_law_cell", 2)]) (g := gName 2) rfl sc_law_begun.nd rfl rfl (sw_true rfl rfl rfl (by decide +kernel)) (pi_list (pv 0))
        (blkOk_by (own := [("_law_cell", 2)]) (N := n_law_begun) (sc := defScope s_law_begun) (by decide +kernel))
        (fun _ _ _ _ _ => pg_name (i := 2) sc_law_begun.nd rfl (Or.inl rfl))
        (fun _ _ _ _ _ => pts_one (pt_cmpR op_ge (pv 2) (pe_op op_pow pe_int pe_int) (nomark _)))
        (fun _ _ _ _ _ => pe_op op_sub (pv 2) (pe_op op_pow pe_int pe_int)))
      (pss_one (ps_ret (pe_disp (pps_cons pe_str (pv 1) (pps_cons pe_str (pe_callTy call_list_of (by rfl) T.z_list (by decide +kernel) (pa_cons (pv 0) pa_nil)) (pps_cons pe_str pe_int (pps_cons pe_str pe_int pps_nil)))) (by rfl) (by rfl) (fun z => by cases z) (by decide)))), ?_⟩
    refine ⟨_, rfl, a, rfl, ⟨_, hS⟩, fun D hD => ?_⟩
    have sm : ∀ o, Same H (upd H D o) := fun o => same_new hD
    refine lc_list (K := K) (a := a) (xs := ns.map V.int) (fun i H1 => ∃ gs : List Int, H1 = upd H D (.lst (gs.map V.int)) ∧ gs.length ≤ i) ⟨[], rfl, Nat.le_refl _⟩
      (fun i H1 _ ⟨gs, e, _⟩ => by rw [e]; exact (sm _).seq hS) ?_ ?_
    · rintro i x H1 hx ⟨gs, rfl, hg⟩
      have hi : i < (ns.map V.int).length := (List.getElem?_eq_some_iff.mp hx).1
      rw [List.length_map] at hi
      obtain ⟨z, hz, rfl⟩ := List.mem_map.mp (List.mem_of_getElem? hx)
      refine ⟨rfl, _, rfl, _, _, rfl, rfl, ⟨by decide, by decide, by decide⟩, _, _, rfl, rfl, _, rfl, ?_⟩
      refine ite2 (fun _ => ?_) (fun _ => ?_)
      · refine ⟨_, rfl, _, _, rfl, rfl, ⟨by decide, by decide, by decide⟩, _, _, rfl, rfl, _, upd_same, ?_, ?_⟩
        · rw [List.length_map]
          exact small1000 (by omega)
        · refine ⟨gs ++ [z - 10 ^ 18], ?_, by rw [List.length_append]; show gs.length + 1 ≤ i + 1; omega⟩
          rw [upd_upd, List.map_append]
          rfl
      · exact ⟨gs, rfl, by omega⟩
    · rintro H1 ⟨gs, rfl, hg⟩
      intro d hd
      have nDd : D ≠ d := fun e => by rw [← e, upd_same] at hd; cases hd
      have hd0 : H d = none := by rw [upd_ne nDd.symm] at hd; exact hd
      have s1 : Same (upd H D (.lst (gs.map V.int))) (upd (upd H D (.lst (gs.map V.int))) d (.dK [])) := same_new hd
      refine ⟨_, rfl, _, rfl, a, _, rfl, .inl (s1.seq ((sm _).seq hS)), fun c hc => ?_⟩
      have s2 : Same (upd (upd H D (.lst (gs.map V.int))) d (.dK [])) (upd (upd (upd H D (.lst (gs.map V.int))) d (.dK [])) c (.lst (ns.map V.int))) := same_new hc
      have hgD := s2 _ _ (s1 _ _ (upd_same (H := H) (a := D) (o := .lst (gs.map V.int))))
      have hdd := s2 _ _ (upd_same (H := upd H D (.lst (gs.map V.int))) (a := d) (o := .dK []))
      have ndc : d ≠ c := fun e => by rw [← e, upd_same] at hc; cases hc
      have nDc : D ≠ c := fun e => by rw [← e] at hc; rw [s1 _ _ upd_same] at hc; cases hc
      have hc0 : H c = none := by rw [upd_ne ndc.symm, upd_ne nDc.symm] at hc; exact hc
      refine ⟨hdd, drK D c 0 0, rfl, by show 4 ≤ 15; decide, ?_⟩
      have em : mergeK [] (drK D c 0 0) = drK D c 0 0 := by kernel_rfl
      rw [em]
      refine k d D c _ hd0 hD hc0 ⟨⟨0, 0, by omega, by omega, upd_same⟩, ⟨gs, ?_⟩, ⟨ns, ?_⟩, nDc⟩ fun b o e => ?_
      · rw [upd_ne nDd]; exact hgD
      · rw [upd_ne ndc.symm, upd_same]
      · rw [upd_ne (ne_of_none e hd0)]; exact s2 _ _ (s1 _ _ (sm _ _ _ e))
end
end Sn

/-! ## The drawing state beside new objects (for laws without Drawn and DrawnN, which say the same) -/
namespace Sn
open PySem PySem.Spec PyProof.Rows L2
theorem dr_new {H : Hp} {d g c p : Addr} {m : Nat} (D : Dr H d g c m) (h : H p = none) : p ≠ d ∧ p ≠ g ∧ p ≠ c := by
  obtain ⟨⟨l, t, _, _, hd⟩, ⟨gs, hg⟩, ⟨cs, hc⟩, _⟩ := D
  exact ⟨(ne_of_none hd h).symm, (ne_of_none hg h).symm, (ne_of_none hc h).symm⟩
theorem Dr.upd {H : Hp} {d g c L : Addr} {m : Nat} {o : HO} (D : Dr H d g c m) (h : L ≠ d ∧ L ≠ g ∧ L ≠ c) : Dr (L2.upd H L o) d g c m := by
  obtain ⟨⟨l, t, h0, h1, h2⟩, ⟨a, h3⟩, ⟨b, h4⟩, h5⟩ := D
  exact ⟨⟨l, t, h0, h1, by rw [upd_ne h.1.symm]; exact h2⟩, ⟨a, by rw [upd_ne h.2.1.symm]; exact h3⟩, ⟨b, by rw [upd_ne h.2.2.symm]; exact h4⟩, h5⟩
theorem Mv.put {d g L : Addr} {H H2 : Hp} {o : HO} (m : Mv d g H H2) (h : H L = none) : Mv d g H (L2.upd H2 L o) := fun b x h1 h2 e => by
  rw [upd_ne (ne_of_none e h)]
  exact m _ _ h1 h2 e
end Sn

/-! ## Comprehensions whose items leave the heap as it was but for new objects -/
namespace Sn
open PySem PySem.Spec PyProof.Rows L2
theorem same_at {H H2 : Hp} {L : Addr} {o : HO} (s : Same H H2) (h : H L = none) : Same H (upd H2 L o) := fun b x e => by
  rw [upd_ne (ne_of_none e h)]
  exact s _ _ e
section
variable {J : It} {n : Nat} {G : Hp → Prop} {Y : Nat → Hp → V → Hp → Prop}
/-- [e for x in xs] -/
theorem lc_out (w : Walk J n G Y) {g : TG} {te : TE} {vs : List Nat} {σ : L2.St} {H1 : Hp} {D : Addr} {Qd : Hp → Prop} (f : Nat → V) (hn : n ≤ 1000) (hD : H1 D = none) (hG : ∀ H, Same H1 H → G H)
    (hs : ∀ i x H H' (Qg : L2.St → Hp → Prop), i < n → Same H1 H → Y i H x H' → (∀ σ2 H2, Same H H2 → wipe σ2 vs = wipe σ vs → (∀ R : VK, (∀ H4, Same H2 H4 → R (f i) H4) → te σ2 H2 R) → Qg σ2 H2) → g x (wipe σ vs) H' Qg)
    (hd : ∀ H, Same H1 H → H D = some (.lst ((List.range n).map f)) → Qd H) :
    ∃ W : Nat → Nat → Hp → Prop, (∃ m, W 0 m (upd H1 D (.lst []))) ∧ ∀ i m H, W i m H →
      (J.stop i H ∧ Qd H) ∨ (J.go i H ∧ ∃ Nx : Hp → Prop, (∀ H', Nx H' → ∃ m', m' < m ∧ W (i + 1) m' H') ∧ ∀ x H', J.yld i H x H' → g x (wipe σ vs) H' fun σ2 H2 => wipe σ2 vs = wipe σ vs ∧ tYes σ2 H2 fun b H3 =>
        if b = true then te σ2 H3 fun y H4 => ∃ acc, H4 D = some (.lst acc) ∧ acc.length < sizeLine ∧ Nx (upd H4 D (.lst (acc ++ [y]))) else Nx H3) := by
  refine lc_it w (fun i H => Same H1 H ∧ H D = some (.lst ((List.range i).map f))) ⟨same_new hD, upd_same⟩ (fun i H _ q => hG H q.1) ?_ (fun H q => hd H q.1 q.2)
  rintro i x H H' hi ⟨s1, hl⟩ y
  refine hs i x H H' _ hi s1 y fun σ2 H2 s2 ew ht => ⟨ew, ?_⟩
  show te σ2 H2 fun y H4 => ∃ acc, H4 D = some (.lst acc) ∧ acc.length < sizeLine ∧ Same H1 (upd H4 D (.lst (acc ++ [y]))) ∧ (upd H4 D (.lst (acc ++ [y]))) D = some (.lst ((List.range (i + 1)).map f))
  refine ht _ fun H4 s4 => ?_
  refine ⟨_, s4 _ _ (s2 _ _ hl), small1000 (by rw [List.length_map, List.length_range]; omega), same_at ((s1.trans s2).trans s4) hD, ?_⟩
  rw [upd_same, List.range_succ, List.map_append]; rfl
/-- [e for x in xs if t] -/
theorem lc_outF (w : Walk J n G Y) {g : TG} {tt : TT} {te : TE} {vs : List Nat} {σ : L2.St} {H1 : Hp} {D : Addr} {Qd : Hp → Prop} (b : Nat → Bool) (f : Nat → V) (hn : n ≤ 1000) (hD : H1 D = none) (hG : ∀ H, Same H1 H → G H)
    (hs : ∀ i x H H' (Qg : L2.St → Hp → Prop), i < n → Same H1 H → Y i H x H' → (∀ σ2 H2, Same H H2 → wipe σ2 vs = wipe σ vs → (∀ H3 (R : VK), R (f i) H3 → te σ2 H3 R) → (∀ R : Bool → Hp → Prop, (∀ H4, Same H2 H4 → R (b i) H4) → tt σ2 H2 R) → Qg σ2 H2) → g x (wipe σ vs) H' Qg)
    (hd : ∀ H, Same H1 H → H D = some (.lst (((List.range n).filter b).map f)) → Qd H) :
    ∃ W : Nat → Nat → Hp → Prop, (∃ m, W 0 m (upd H1 D (.lst []))) ∧ ∀ i m H, W i m H →
      (J.stop i H ∧ Qd H) ∨ (J.go i H ∧ ∃ Nx : Hp → Prop, (∀ H', Nx H' → ∃ m', m' < m ∧ W (i + 1) m' H') ∧ ∀ x H', J.yld i H x H' → g x (wipe σ vs) H' fun σ2 H2 => wipe σ2 vs = wipe σ vs ∧ tt σ2 H2 fun b H3 =>
        if b = true then te σ2 H3 fun y H4 => ∃ acc, H4 D = some (.lst acc) ∧ acc.length < sizeLine ∧ Nx (upd H4 D (.lst (acc ++ [y]))) else Nx H3) := by
  refine lc_it w (fun i H => Same H1 H ∧ H D = some (.lst (((List.range i).filter b).map f))) ⟨same_new hD, upd_same⟩ (fun i H _ q => hG H q.1) ?_ (fun H q => hd H q.1 q.2)
  rintro i x H H' hi ⟨s1, hl⟩ y
  refine hs i x H H' _ hi s1 y fun σ2 H2 s2 ew he ht => ⟨ew, ht _ fun H4 s4 => ?_⟩
  have er : (List.range (i + 1)).filter b = (List.range i).filter b ++ if b i = true then [i] else [] := by
    rw [List.range_succ, List.filter_append]
    congr 1
    cases h : b i <;> simp [h]
  cases hb : b i with
  | true =>
    refine iteT (he _ _ ⟨_, s4 _ _ (s2 _ _ hl), small1000 ?_, same_at ((s1.trans s2).trans s4) hD, ?_⟩)
    · rw [List.length_map]
      have := List.length_filter_le b (List.range i)
      rw [List.length_range] at this
      omega
    · rw [upd_same, er, hb, if_pos rfl, List.map_append]; rfl
  | false =>
    refine iteF ⟨(s1.trans s2).trans s4, ?_⟩
    rw [er, hb, if_neg (by decide), List.append_nil]
    exact s4 _ _ (s2 _ _ hl)
end
theorem all_range {α : Type} (p : α → Bool) (z : α) : ∀ ds : List α, (List.range ds.length).all (fun i => p (ds.getD i z)) = ds.all p := by
  intro ds
  rw [Bool.eq_iff_iff, List.all_eq_true, List.all_eq_true]
  constructor
  · intro h x hx
    obtain ⟨i, hi, rfl⟩ := List.getElem_of_mem hx
    have := h i (List.mem_range.mpr hi)
    rwa [List.getD_eq_getElem?_getD, List.getElem?_eq_getElem hi] at this
  · intro h i hi
    have hi := List.mem_range.mp hi
    rw [List.getD_eq_getElem?_getD, List.getElem?_eq_getElem hi]
    exact h _ (List.getElem_mem hi)
theorem getD_of {α : Type} {ds : List α} {i : Nat} {d z : α} (h : ds[i]? = some d) : ds.getD i z = d := by
  rw [List.getD_eq_getElem?_getD, h]; rfl
/-- a filter that lets nothing through -/
theorem filter_nil {n : Nat} {b : Nat → Bool} {f : Nat → V} : (((List.range n).filter fun i => !b i).map f).isEmpty = (List.range n).all b := by
  rw [Bool.eq_iff_iff, List.isEmpty_iff, List.map_eq_nil_iff, List.filter_eq_nil_iff, List.all_eq_true]
  constructor
  · intro h i hi
    have := h i hi
    simpa using this
  · intro h i hi
    simp [h i hi]
end Sn

/-! ## Data that stays while one draws -/
namespace Sn
open PySem PySem.Spec PyProof.Rows L2
/-- v is the data dd, whatever is drawn -/
def Sd (d g : Addr) (H : Hp) (v : V) (dd : PyData) : Prop := ∀ H', Mv d g H H' → Dh H' v dd
def SdA (d g : Addr) (H : Hp) (vs : List V) (ds : List PyData) : Prop := ∀ H', Mv d g H H' → DhAll H' vs ds
section
variable {d g c : Addr} {H H' : Hp} {m : Nat} {v : V} {vs : List V} {dd : PyData} {ds : List PyData} {K : PySem.W.Frag}
theorem Sd.mv (h : Sd d g H v dd) (m : Mv d g H H') : Sd d g H' v dd := fun H2 m2 => h H2 (m.trans m2)
theorem Sd.same (h : Sd d g H v dd) (s : Same H H') : Sd d g H' v dd := h.mv (Mv.same s)
theorem Sd.at (h : Sd d g H v dd) : Dh H v dd := h H (Mv.refl _ _ _)
theorem SdA.mv (h : SdA d g H vs ds) (m : Mv d g H H') : SdA d g H' vs ds := fun H2 m2 => h H2 (m.trans m2)
theorem SdA.same (h : SdA d g H vs ds) (s : Same H H') : SdA d g H' vs ds := h.mv (Mv.same s)
theorem SdA.at (h : SdA d g H vs ds) : DhAll H vs ds := h H (Mv.refl _ _ _)
theorem SdA.nil : SdA d g H [] [] := fun _ _ => .nil
theorem SdA.cons (h : Sd d g H v dd) (a : SdA d g H vs ds) : SdA d g H (v :: vs) (dd :: ds) := fun H' m => .cons (h H' m) (a H' m)
theorem Sd.non : Sd d g H .non .none := fun _ _ => .non
theorem Sd.bl (b : Bool) : Sd d g H (.bl b) (.bool b) := fun _ _ => .bl b
theorem Sd.int (i : Int) : Sd d g H (.int i) (.int i) := fun _ _ => .int i
theorem Sd.str (z : Str) : Sd d g H (.str z) (.str z) := fun _ _ => .str z
theorem Sd.tup {p : Addr} (D : Dr H d g c m) (hp : H p = none) (a : SdA d g H vs ds) : Sd d g (upd H p (.tup vs)) (.ref p) (.tuple ds) := fun H' mv => by
  have n := dr_new D hp
  exact .tup (mv _ _ n.1 n.2.1 upd_same) (a H' ((Mv.same (same_new hp)).trans mv))
theorem Sd.lst {p : Addr} (D : Dr H d g c m) (hp : H p = none) (a : SdA d g H vs ds) : Sd d g (upd H p (.lst vs)) (.ref p) (.list ds) := fun H' mv => by
  have n := dr_new D hp
  exact .lst (mv _ _ n.1 n.2.1 upd_same) (a H' ((Mv.same (same_new hp)).trans mv))
theorem Sd.tupAt (D : Dr H d g c m) (h : Sd d g H v (.tuple ds)) : ∃ a xs, v = .ref a ∧ H a = some (.tup xs) ∧ SdA d g H xs ds := by
  have h0 := h.at
  cases h0 with
  | tup ha hall =>
    rename_i a xs
    obtain ⟨⟨l, k, _, _, hd⟩, ⟨gs, hg⟩, _, _⟩ := D
    refine ⟨a, xs, rfl, ha, fun H' mv => ?_⟩
    have e := mv _ _ (fun z => by rw [z, hd] at ha; cases ha) (fun z => by rw [z, hg] at ha; cases ha) ha
    have h1 := h H' mv
    cases h1 with
    | tup hb hall' =>
      rw [e] at hb
      cases hb
      exact hall'
theorem SdA.len (a : SdA d g H vs ds) : vs.length = ds.length := a.at.len
theorem SdA.app {ws : List V} {es : List PyData} (a : SdA d g H vs ds) (b : SdA d g H ws es) : SdA d g H (vs ++ ws) (ds ++ es) := fun H' m => (a H' m).app (b H' m)
theorem SdA.take (a : SdA d g H vs ds) (n : Nat) : SdA d g H (vs.take n) (ds.take n) := fun H' m => (a H' m).take n
theorem SdA.drop (a : SdA d g H vs ds) (n : Nat) : SdA d g H (vs.drop n) (ds.drop n) := fun H' m => (a H' m).drop n
theorem SdA.get (a : SdA d g H vs ds) {i : Nat} (h : vs[i]? = some v) : ∃ dd, ds[i]? = some dd ∧ Sd d g H v dd := by
  obtain ⟨dd, e, q⟩ := a.at.get h
  refine ⟨dd, e, fun H' m => ?_⟩
  obtain ⟨d2, e2, q2⟩ := (a H' m).get h
  rw [e] at e2
  cases e2
  exact q2
theorem SdA.get2 (a : SdA d g H vs ds) {i : Nat} (h : i < ds.length) : ∃ v dd, vs[i]? = some v ∧ ds[i]? = some dd ∧ Sd d g H v dd := by
  have h1 : i < vs.length := by rw [a.len]; exact h
  obtain ⟨dd, e, q⟩ := a.get (List.getElem?_eq_getElem h1)
  exact ⟨_, dd, List.getElem?_eq_getElem h1, e, q⟩
/-- a cut of data -/
def cutD (ds : List PyData) (lo hi : Option Int) : List PyData := (ds.drop (HT.sIx ds.length 0 lo)).take (HT.sIx ds.length ds.length hi - HT.sIx ds.length 0 lo)
theorem SdA.cut (a : SdA d g H vs ds) (lo hi : Option Int) : SdA d g H (cutV vs lo hi) (cutD ds lo hi) := by
  unfold cutV cutD
  rw [a.len]
  exact (a.drop _).take _
theorem cut_whole {ds : List PyData} {lo hi : Option Int} (h : HT.sIx ds.length 0 lo = 0 ∧ HT.sIx ds.length ds.length hi = ds.length) : cutD ds lo hi = ds := by
  unfold cutD
  rw [h.1, h.2]
  simp
/-- t[lo:hi] -/
theorem slA_sd {a : Addr} {lo hi : Option Int} {Q : VK} (D : Dr H d g c m) (h : Sd d g H (.ref a) (.tuple ds)) (k : ∀ p H', Same H H' → Sd d g H' (.ref p) (.tuple (cutD ds lo hi)) → Q (.ref p) H') : rSlA K (.ref a) lo hi H Q := by
  obtain ⟨a', xs, e, ha, hs⟩ := h.tupAt D
  cases e
  refine ⟨a, xs, rfl, .inl (.inl ha), fun w => ?_, fun _ p hp => ?_⟩
  · rw [hs.len] at w
    refine k a H (Same.refl _) ?_
    rw [cut_whole w]
    exact h
  · exact k p _ (same_new hp) (Sd.tup D hp (hs.cut lo hi))
/-- s + t -/
theorem catA_sd {a b : Addr} {es : List PyData} {Q : VK} (D : Dr H d g c m) (h : Sd d g H (.ref a) (.tuple ds)) (h2 : Sd d g H (.ref b) (.tuple es)) (hl : ds.length + es.length ≤ 1000)
    (k : ∀ p H', Same H H' → Sd d g H' (.ref p) (.tuple (ds ++ es)) → Q (.ref p) H') : rCatA K (.ref a) (.ref b) H Q := by
  obtain ⟨a', xs, e, ha, hs⟩ := h.tupAt D
  cases e
  obtain ⟨b', ys, e, hb, ht⟩ := h2.tupAt D
  cases e
  refine ⟨a, b, xs, ys, rfl, rfl, .inl (.inl ha), .inl (.inl hb), ?_, fun e => ?_, fun _ e => ?_, fun _ _ p hp => ?_⟩
  · rw [hs.len, ht.len]
    exact Nat.le_of_lt (small1000 hl)
  · refine k b H (Same.refl _) ?_
    have : ds = [] := List.length_eq_zero_iff.mp (by rw [← hs.len, e]; rfl)
    rw [this, List.nil_append]
    exact h2
  · refine k a H (Same.refl _) ?_
    have : es = [] := List.length_eq_zero_iff.mp (by rw [← ht.len, e]; rfl)
    rw [this, List.append_nil]
    exact h
  · exact k p _ (same_new hp) (Sd.tup D hp (hs.app ht))
end
/-! xs == [], xs != [], whatever xs holds -/
section
variable {X : Cx}
def rNil (neg : Bool) (K : PySem.W.Frag) : R2 := fun x y H Q => ∃ a b xs, x = .ref a ∧ y = .ref b ∧ SqL K H a xs ∧ SqL K H b [] ∧ Q (.bl (if neg then !xs.isEmpty else xs.isEmpty)) H
theorem op_eqNilH {K : PySem.W.Frag} (hu : X.A.units + 64 < cLine) (hK : X.K = K := by rfl) : OpR X (compareOp .Eq) (rNil false K) := by
  subst hK
  intro pins s σ H x y v u Q I rx ry h
  obtain ⟨a, b, xs, rfl, rfl, ha, hb, q⟩ := h
  cases xs with
  | nil => exact op_eqD hu pins s σ H _ _ v u Q I rx ry ⟨_, _, .lst ha .nil, .lst hb .nil, rfl, rfl, q⟩
  | cons z r =>
    cases rx
    cases ry
    obtain ⟨its, rv, pl, _⟩ := I.list ha
    obtain ⟨jts, rw', pl', _⟩ := I.list hb
    have e1 := rv.length
    have e2 := rw'.length
    refine PySem.SeqAt.RcAt.lists_lengths pl.isList pl'.isList ?_ (by omega) _ _ _ _ ⟨.bl false, H, I, rfl, q⟩
    simp only [List.length_cons, List.length_nil] at e1 e2
    rw [List.size_toArray, List.size_toArray, ← e1, ← e2]
    simp
theorem op_neNilH {K : PySem.W.Frag} (hu : X.A.units + 64 < cLine) (hK : X.K = K := by rfl) : OpR X (compareOp .NotEq) (rNil true K) := by
  subst hK
  intro pins s σ H x y v u Q I rx ry h
  obtain ⟨a, b, xs, rfl, rfl, ha, hb, q⟩ := h
  cases xs with
  | nil => exact op_neD hu pins s σ H _ _ v u Q I rx ry ⟨_, _, .lst ha .nil, .lst hb .nil, rfl, rfl, q⟩
  | cons z r =>
    cases rx
    cases ry
    obtain ⟨its, rv, pl, _⟩ := I.list ha
    obtain ⟨jts, rw', pl', _⟩ := I.list hb
    have e1 := rv.length
    have e2 := rw'.length
    refine SeqAt.RcNeAt.lists_lengths pl.isList pl'.isList ?_ (by omega) _ _ _ _ ⟨.bl true, H, I, rfl, q⟩
    simp only [List.length_cons, List.length_nil] at e1 e2
    rw [List.size_toArray, List.size_toArray, ← e1, ← e2]
    simp
end
end Sn

/-! ## Data of tuples alone: it stays while lists are changed -/
namespace Sn
open PySem PySem.Spec PyProof.Rows L2
def MvT (H H' : Hp) : Prop := ∀ a xs, H a = some (.tup xs) → H' a = some (.tup xs)
def St1 (H : Hp) (v : V) (dd : PyData) : Prop := ∀ H', MvT H H' → Dh H' v dd
def StA (H : Hp) (vs : List V) (ds : List PyData) : Prop := ∀ H', MvT H H' → DhAll H' vs ds
section
variable {d g c : Addr} {H H' : Hp} {m : Nat} {v : V} {vs : List V} {dd : PyData} {ds : List PyData} {K : PySem.W.Frag}
theorem MvT.refl : MvT H H := fun _ _ e => e
theorem MvT.trans {H2 : Hp} (a : MvT H H') (b : MvT H' H2) : MvT H H2 := fun x xs e => b _ _ (a _ _ e)
theorem MvT.same (s : Same H H') : MvT H H' := fun a xs e => s _ _ e
theorem MvT.mv (D : Dr H d g c m) (v : Mv d g H H') : MvT H H' := fun a xs e => by
  obtain ⟨⟨l, k, _, _, hd⟩, ⟨gs, hg⟩, _, _⟩ := D
  exact v _ _ (fun z => by rw [z, hd] at e; cases e) (fun z => by rw [z, hg] at e; cases e) e
theorem MvT.put {B : Addr} {l l' : List V} (h : H B = some (.lst l)) : MvT H (upd H B (.lst l')) := fun a xs e => by
  rw [upd_ne (fun z => by rw [z, h] at e; cases e)]
  exact e
theorem St1.mv (h : St1 H v dd) (m : MvT H H') : St1 H' v dd := fun H2 m2 => h H2 (m.trans m2)
theorem StA.mv (h : StA H vs ds) (m : MvT H H') : StA H' vs ds := fun H2 m2 => h H2 (m.trans m2)
theorem StA.nil : StA H [] [] := fun _ _ => .nil
theorem StA.cons (h : St1 H v dd) (a : StA H vs ds) : StA H (v :: vs) (dd :: ds) := fun H' m => .cons (h H' m) (a H' m)
theorem StA.app {ws : List V} {es : List PyData} (a : StA H vs ds) (b : StA H ws es) : StA H (vs ++ ws) (ds ++ es) := fun H' m => (a H' m).app (b H' m)
theorem StA.at (h : StA H vs ds) : DhAll H vs ds := h H .refl
theorem St1.str (z : Str) : St1 H (.str z) (.str z) := fun _ _ => .str z
theorem StA.all (h : ∀ H2, DhAll H2 vs ds) : StA H vs ds := fun H' _ => h H'
theorem St1.tup {p : Addr} (hp : H p = none) (a : StA H vs ds) : St1 (upd H p (.tup vs)) (.ref p) (.tuple ds) := fun H' mv =>
  .tup (mv _ _ upd_same) (a H' ((MvT.same (same_new hp)).trans mv))
theorem St1.sd (D : Dr H d g c m) (h : St1 H v dd) : Sd d g H v dd := fun H' mv => h H' (MvT.mv D mv)
theorem St1.tupAt (h : St1 H v (.tuple ds)) : ∃ a xs, v = .ref a ∧ H a = some (.tup xs) ∧ StA H xs ds := by
  have h0 := h H .refl
  cases h0 with
  | tup ha hall =>
    rename_i a xs
    refine ⟨a, xs, rfl, ha, fun H' mv => ?_⟩
    have h1 := h H' mv
    cases h1 with
    | tup hb hall' =>
      rw [mv _ _ ha] at hb
      cases hb
      exact hall'
theorem StA.cut (a : StA H vs ds) (lo hi : Option Int) : StA H (cutV vs lo hi) (cutD ds lo hi) := fun H' m => by
  have b := a H' m
  unfold cutV cutD
  rw [b.len]
  exact (b.drop _).take _
/-- t[lo:hi] -/
theorem slA_st {a : Addr} {lo hi : Option Int} {Q : VK} (h : St1 H (.ref a) (.tuple ds)) (k : ∀ p H', Same H H' → St1 H' (.ref p) (.tuple (cutD ds lo hi)) → Q (.ref p) H') : rSlA K (.ref a) lo hi H Q := by
  obtain ⟨a', xs, e, ha, hs⟩ := h.tupAt
  cases e
  refine ⟨a, xs, rfl, .inl (.inl ha), fun w => ?_, fun _ p hp => ?_⟩
  · rw [hs.at.len] at w
    refine k a H (Same.refl _) ?_
    rw [cut_whole w]
    exact h
  · exact k p _ (same_new hp) (St1.tup hp (hs.cut lo hi))
end
end Sn

/-! ## The program's is_word, is_name, is_path -/
namespace Sn
open PySem PySem.Spec PyProof.Rows L2 TL

/-- a value that is no text -/
def NoStr (K : PySem.W.Frag) (H : Hp) (v : V) : Prop := ∃ t, TyX K H v t ∧ PySem.W.kitOne K t (.type "str") = some false
/-- a value that may be asked: a text that is not too long, or no text -/
def Arg (K : PySem.W.Frag) (H : Hp) (v : V) : Prop := (∃ z : Str, v = .str z ∧ z.length ≤ 1000) ∨ NoStr K H v
def ans (f : Str → Bool) : V → Bool
  | .str z => f z
  | _ => false
theorem NoStr.ans {K : PySem.W.Frag} {H : Hp} {v : V} (h : NoStr K H v) (f : Str → Bool) : ans f v = false := by
  obtain ⟨t, ty, hk⟩ := h
  cases v with
  | str z =>
    cases ty with
    | base b =>
      cases b
      have e : PySem.W.kitOne K (.type "str") (.type "str") = some true := kit_ty (by decide +kernel)
      rw [e] at hk
      cases hk
  | _ => rfl
theorem tyX_same {K : PySem.W.Frag} {H H' : Hp} {v : V} {t : Value} (s : Same H H') (h : TyX K H v t) : TyX K H' v t := by
  cases h with
  | base b =>
    refine .base ?_
    cases b with
    | non => exact .non
    | bl x => exact .bl x
    | int x => exact .int x
    | str x => exact .str x
    | flt x => exact .flt x
    | lst e => exact .lst (s _ _ e)
    | frz e => exact .frz (s _ _ e)
    | tup e => exact .tup (s _ _ e)
    | dK e => exact .dK (s _ _ e)
    | dT e => exact .dT (s _ _ e)
    | ins e a b c d f => exact .ins (s _ _ e) a b c d f
  | byt b => exact .byt b
  | set e => exact .set (s _ _ e)
  | kList e c => exact .kList e c
  | kTuple e c => exact .kTuple e c
  | kDict e c => exact .kDict e c
  | fTuple e => exact .fTuple (s _ _ e)
  | fDict e => exact .fDict (s _ _ e)
theorem Arg.same {K : PySem.W.Frag} {H H' : Hp} {v : V} (h : Arg K H v) (s : Same H H') : Arg K H' v := by
  rcases h with h | ⟨t, ty, hk⟩
  · exact .inl h
  · exact .inr ⟨t, tyX_same s ty, hk⟩
theorem same_in {H0 H2 : Hp} {D : Addr} {o : HO} (s : Same H0 H2) (h : H0 D = none) : Same H0 (upd H2 D o) := fun b x e => by
  rw [upd_ne (ne_of_none e h)]
  exact s _ _ e
/-- a question about one value: the answer f of a text, False of any other value -/
def spAsk (K : PySem.W.Frag) (f : Str → Bool) : Sp := fun vs H Q _ => ∃ v : V, vs = [v] ∧ Arg K H v ∧ ∀ H', Same H H' → Q (.bl (ans f v)) H'
theorem len_le {z : Str} (h : z.length ≤ 1000) : z.length ≤ sizeLine := Nat.le_of_lt (small1000 h)
theorem takes {α : Type} {l : List α} {i : Nat} {x : α} (h : l[i]? = some x) : l.take (i + 1) = l.take i ++ [x] := by
  rw [List.take_add_one, h]; rfl

section
variable {P : Program} {w : World} {K : PySem.W.Frag} {mg : Str → Option Value} {base : Heap}
theorem ok_word (T : Txt K mg) : FnOk P w K mg base CX0 1 T.f_is_word T.fd_is_word ["value"] (spAsk K isW) := by
  obtain ⟨t1, g1⟩ := T.c_MOST_SIGNS
  obtain ⟨t2, g2⟩ := T.c_SIGNS
  refine T.F_is_word.ok sc_is_word (fun vs H Q E h => ?_) (fun cdv A outer s H vs Q E hr h => ?_)
  · obtain ⟨v, rfl, _⟩ := h
    rfl
  · obtain ⟨v, rfl, ha, k⟩ := h
    refine ⟨_, pss_one (ps_ret (pe_and (pe_callB call_isi (by rfl) T.z_isinstance (by decide +kernel) (pa_cons (pv 0) (pa_cons (pe_bltn (v := .ty "str") (by rfl) T.z_str (by decide +kernel) rfl) pa_nil)))
      (pe_and (pe_cmpR op_le (pe_callB call_len (by rfl) T.z_len PySem.boot_len (pa_cons (pv 0) pa_nil)) (pe_glob (v := .int 8) rfl g1 ⟨_, rfl⟩) (nomark _))
      (pe_one (pe_callB (cr_all rfl) (by rfl) T.z_all (by decide +kernel) (pa_cons (pe_lc (own := [("sign", 1)]) (g := gName 1) (by rfl) sc_is_word.nd (pi_str (pv 0))
        (blkOk_by (own := [("sign", 1)]) (N := n_is_word) (sc := defScope s_is_word) (by decide +kernel))
        (fun _ _ _ _ _ => pg_name (i := 1) sc_is_word.nd rfl (Or.inl rfl)) (fun _ _ _ _ _ => pts_nil)
        (fun _ _ _ _ _ => pe_cmpR op_in_sign (pv 1) (pe_glob (v := .str sgnS) rfl g2 ⟨_, rfl⟩) rfl)) pa_nil)))))), ?_⟩
    rcases ha with ⟨z, rfl, hz⟩ | hn
    · refine ⟨_, rfl, _, .ty "str", .type "str", .type "str", true, rfl, .ty "str", .base (.str z), kit_ty (by decide +kernel), true, rfl, iteT ?_⟩
      refine ⟨_, rfl, _, z.length, rfl, ⟨len_le hz, rfl⟩, _, _, rfl, rfl, _, rfl, ?_⟩
      by_cases h8 : z.length ≤ 8
      · rw [decide_eq_true (show (z.length : Int) ≤ 8 by omega)]
        refine iteT ?_
        refine ⟨_, rfl, z, rfl, fun D hD => ?_⟩
        refine lc_it walk_str (fun i H1 => H1 = upd H D (.lst (((tl z).take i).map fun c => V.bl (decide (c ∈ tl sgnS))))) rfl (fun _ _ _ _ => trivial) ?_ ?_
        · rintro i x H1 H2 hi rfl ⟨rfl, c, hc, rfl⟩
          refine ⟨rfl, ?_⟩
          have hc2 : (tl z)[i]? = some c := by simpa using hc
          refine ⟨_, rfl, c, sgnS, rfl, rfl, _, upd_same, ?_, ?_⟩
          · rw [List.length_map]
            have : ((tl z).take i).length ≤ z.length := by rw [List.length_take, len_tl]; omega
            exact small1000 (by omega)
          · rw [upd_upd, takes hc2, List.map_append]; rfl
        · rintro H1 rfl
          refine ⟨D, (tl z).map fun c => decide (c ∈ tl sgnS), rfl, .inl (.inl ?_), ?_⟩
          · rw [upd_same, show z.cps.size = (tl z).length by simp, List.take_length, List.map_map]; rfl
          · have e : isW z = (((tl z).map fun c => decide (c ∈ tl sgnS)).all id) := by
              unfold isW
              rw [decide_eq_true h8, Bool.true_and, List.all_map]; rfl
            have q := k _ (same_new (H := H) (p := D) (o := .lst (((tl z).take z.cps.size).map fun c => V.bl (decide (c ∈ tl sgnS)))) hD)
            show Q (.bl _) _
            rw [← e]
            exact q
      · rw [decide_eq_false (show ¬ (z.length : Int) ≤ 8 by omega)]
        refine iteF ?_
        have e : isW z = false := by unfold isW; rw [decide_eq_false h8, Bool.false_and]
        have q := k H (Same.refl H)
        rw [show ans isW (.str z) = isW z from rfl, e] at q
        exact q
    · obtain ⟨t, ty, hk⟩ := id hn
      refine ⟨_, rfl, _, .ty "str", t, .type "str", false, rfl, .ty "str", ty, hk, false, rfl, iteF ?_⟩
      have q := k H (Same.refl H)
      rw [hn.ans] at q
      exact q
theorem ok_name (T : Txt K mg) : FnOk P w K mg base CX0 2 T.f_is_name T.fd_is_name ["value"] (spAsk K isN) := by
  have GW : FnOk P w K mg base CX0 1 T.f_is_word T.fd_is_word ["value"] (spAsk K isW) := ok_word T
  obtain ⟨t1, g1⟩ := T.c_LETTERS
  refine T.F_is_name.ok sc_is_name (fun vs H Q E h => ?_) (fun cdv A outer s H vs Q E hr h => ?_)
  · obtain ⟨v, rfl, _⟩ := h
    rfl
  · obtain ⟨v, rfl, ha, k⟩ := h
    refine ⟨_, pss_one (ps_ret (pe_and (pe_call GW hr rfl T.g_is_word T.F_is_word.kp T.b_is_word .nil pass0 (pa_cons (pv 0) pa_nil))
      (pe_and (pe_cmpR op_in_seq (pe_slice sl_str (pv 0) po_none (po_some pe_int)) (pe_callTy call_tupS (by rfl) T.z_tuple (by decide +kernel) (pa_cons (pe_glob (v := .str letS) rfl g1 ⟨_, rfl⟩) pa_nil)) (by rfl))
      (pe_one (pe_cmpR op_notIn_seq (pv 0) (pe_glob (v := .ref T.a_RESERVED) rfl T.c_RESERVED rfl) (by rfl)))))), ?_⟩
    refine ⟨_, rfl, v, rfl, ha, fun H1 s1 => ⟨_, rfl, ?_⟩⟩
    by_cases hw : ans isW v = true
    · rw [hw]
      refine iteT ?_
      rcases ha with ⟨z, rfl, hz⟩ | hn
      · have hw2 : isW z = true := hw
        refine ⟨_, rfl, _, rfl, z, rfl, len_le hz, letS, rfl, hr.hd, by decide +kernel, fun l hl => ?_⟩
        refine ⟨l, _, rfl, .inr (.inl (.inl upd_same)), rfl, ?_, _, rfl, ?_⟩
        · rw [signs_map]; exact flat_strs _
        · have s2 : Same H (upd H1 l (.tup ((tl letS).map fun c => V.str ⟨#[c]⟩))) := s1.trans (same_new hl)
          have e1 : inV (.str (cutS z none (some 1))) ((tl letS).map fun c => V.str ⟨#[c]⟩) = fstL z := fst_in z
          show if (inV (.str (cutS z none (some 1))) ((tl letS).map fun c => V.str ⟨#[c]⟩)) = true then _ else _
          rw [e1]
          by_cases hf : fstL z = true
          · rw [hf]
            refine iteT ?_
            refine ⟨_, rfl, T.a_RESERVED, resv.map V.str, rfl, .inr (T.q_RESERVED _), rfl, flat_strs _, ?_⟩
            have q := k _ s2
            have e : ans isN (.str z) = !inV (.str z) (resv.map V.str) := by
              show isN z = _
              unfold isN
              rw [hw2, hf, inV_strs]; rfl
            rw [e] at q
            exact q
          · rw [show fstL z = false by simpa using hf]
            refine iteF ?_
            have q := k _ s2
            have e : ans isN (.str z) = false := by
              show isN z = _
              unfold isN
              rw [hw2, show fstL z = false by simpa using hf]; rfl
            rw [e] at q
            exact q
      · rw [hn.ans] at hw
        cases hw
    · rw [show ans isW v = false by simpa using hw]
      refine iteF ?_
      have e : ans isN v = false := by
        cases v with
        | str z =>
          show isN z = _
          unfold isN
          rw [show isW z = false from Bool.eq_false_iff.mpr hw]; rfl
        | _ => rfl
      have q := k H1 s1
      rw [e] at q
      exact q
end
end Sn

/-! ## The scanner of a line: rest, take, word, next_name, quoted -/
namespace Sn
open PySem PySem.Spec PyProof.Rows L2 TL
/-- the heap but for what stands at x -/
def SX (x : Addr) (H H' : Hp) : Prop := ∀ b o, b ≠ x → H b = some o → H' b = some o
theorem SX.refl {x : Addr} {H : Hp} : SX x H H := fun _ _ _ e => e
theorem SX.trans {x : Addr} {H H1 H2 : Hp} (a : SX x H H1) (b : SX x H1 H2) : SX x H H2 := fun c o n e => b _ _ n (a _ _ n e)
theorem SX.same {x : Addr} {H H1 : Hp} (a : Same H H1) : SX x H H1 := fun c o _ e => a _ _ e
theorem SX.put {x : Addr} {H : Hp} {o : HO} : SX x H (upd H x o) := fun c o n e => by rw [upd_ne n]; exact e
/-- a scanner at a: the line z, the spot i -/
structure Sc (C : Addr) (H : Hp) (a dx : Addr) (z : Str) (i : Nat) : Prop where
  at_ : H a = some (.ins C dx [("line", .str z), ("spot", .int i)])
  le : i ≤ z.length
  len : z.length ≤ 1000
theorem Sc.same {C : Addr} {H H' : Hp} {a dx : Addr} {z : Str} {i : Nat} (s : Sc C H a dx z i) (h : Same H H') : Sc C H' a dx z i := ⟨h _ _ s.at_, s.le, s.len⟩
theorem Sc.mvT {C : Addr} {H H' : Hp} {a dx : Addr} {z : Str} {i : Nat} (s : Sc C H a dx z i) (h : SX a H H') : MvT H H' := fun b xs e => h _ _ (fun q => by rw [q, s.at_] at e; cases e) e
theorem cut_tl (z : Str) {i n : Nat} (h : i ≤ z.length) : tl (cutS z (some (i : Int)) (some ((i : Int) + n))) = ((tl z).drop i).take n := by
  have e1 : HT.sIx z.length 0 (some (i : Int)) = min i z.length := HT.sIx_nat _ _ i
  have e2 : HT.sIx z.length z.length (some ((i : Int) + n)) = min (i + n) z.length := HT.sIx_nat _ _ (i + n)
  show ((tl z).drop _).take _ = _
  rw [e1, e2, Nat.min_eq_left h]
  apply List.ext_getElem?
  intro j
  simp only [List.getElem?_take, List.getElem?_drop]
  have hl : (tl z).length = z.length := (len_tl z).symm
  by_cases hj : j < n
  · by_cases hk : i + j < z.length
    · rw [if_pos (by omega), if_pos hj]
    · rw [if_pos hj, List.getElem?_eq_none (by omega)]
      split <;> rfl
  · rw [if_neg (by omega), if_neg hj]
theorem cut_tlN (z : Str) {i : Nat} (h : i ≤ z.length) : tl (cutS z (some (i : Int)) none) = (tl z).drop i := by
  have e1 : HT.sIx z.length 0 (some (i : Int)) = min i z.length := HT.sIx_nat _ _ i
  have e2 : HT.sIx z.length z.length none = z.length := HT.sIx_none _ _
  show ((tl z).drop _).take _ = _
  rw [e1, e2, Nat.min_eq_left h]
  exact List.take_of_length_le (by rw [List.length_drop, ← len_tl]; exact Nat.le_refl _)
theorem str_ext {x y : Str} (h : tl x = tl y) : x = y := by
  obtain ⟨⟨l⟩⟩ := x
  obtain ⟨⟨r⟩⟩ := y
  have : l = r := h
  rw [this]
/-- line[spot:spot + len(signs)] == signs -/
theorem take_eq {z s : Str} {i : Nat} (h : i ≤ z.length) : decide (V.str (cutS z (some (i : Int)) (some ((i : Int) + (s.length : Nat)))) = V.str s) = pTake s (tl z) i := by
  unfold pTake
  rw [Bool.eq_iff_iff, decide_eq_true_eq, decide_eq_true_eq, ← cut_tl z h]
  constructor
  · intro e
    injection e with e
    rw [e]
  · intro e
    rw [str_ext e]
theorem take_le {z s : Str} {i : Nat} (h : i ≤ z.length) (t : pTake s (tl z) i = true) : i + s.length ≤ z.length := by
  unfold pTake at t
  have e := of_decide_eq_true t
  have l := congrArg List.length e
  rw [List.length_take, List.length_drop, ← len_tl, ← len_tl] at l
  omega
theorem putF_spot (z : Str) (v w : V) : putF "spot" w ([("line", .str z), ("spot", v)] : List (Str × V)) = ([("line", .str z), ("spot", w)] : List (Str × V)) := rfl
theorem iteDF {b : Bool} {p q : Prop} (h : b = false) (x : q) : if b = true then p else q := by rw [h]; exact iteF x
theorem iteDT {b : Bool} {p q : Prop} (h : b = true) (x : p) : if b = true then p else q := by rw [h]; exact iteT x
theorem tw_eq {l : List Nat} {p : Nat → Bool} {n : Nat} (h1 : ∀ c ∈ l.take n, p c = true) (hn : n ≤ l.length) (h2 : l[n]? = none ∨ ∃ c, l[n]? = some c ∧ p c = false) : l.takeWhile p = l.take n := by
  induction l generalizing n with
  | nil => simp
  | cons x r ih =>
    cases n with
    | zero =>
      rcases h2 with h | ⟨c, h, hc⟩
      · simp at h
      · simp only [List.getElem?_cons_zero, Option.some.injEq] at h
        subst h
        simp [hc]
    | succ n =>
      have hx : p x = true := h1 x (by simp)
      rw [List.takeWhile_cons_of_pos hx, List.take_succ_cons, ih (n := n) (fun c hc => h1 c (by rw [List.take_succ_cons]; exact List.mem_cons.mpr (.inr hc))) (by simpa using hn) (by simpa using h2)]
section
variable {P : Program} {w : World} {K : PySem.W.Frag} {mg : Str → Option Value} {base : Heap}
def spRest (C : Addr) : Sp := fun vs H Q _ => ∃ (a dx : Addr) (z : Str) (i : Nat), vs = [.ref a] ∧ Sc C H a dx z i ∧ Q (.str ⟨((tl z).drop i).toArray⟩) H
theorem ok_rest (T : Txt K mg) : FnOk P w K mg base CX0 1 T.f_Scanner_rest T.fd_Scanner_rest ["self"] (spRest T.C_Scanner) := by
  refine T.F_Scanner_rest.ok sc_Scanner_rest (fun vs H Q E h => ?_) (fun cdv A outer s H vs Q E hr h => ?_)
  · obtain ⟨a, dx, z, i, rfl, _⟩ := h
    rfl
  · obtain ⟨a, dx, z, i, rfl, S, k⟩ := h
    refine ⟨_, (pss_one (ps_ret (pe_slice sl_str (pe_fldK (K := K) (pv 0)) (po_some (pe_fldK (K := K) (pv 0))) po_none))), ?_⟩
    refine ⟨_, rfl, a, _, dx, _, _, rfl, S.at_, T.cl_Scanner, T.at_Scanner_line, rfl, _, rfl, a, _, dx, _, _, rfl, S.at_, T.cl_Scanner, T.at_Scanner_spot, rfl, ?_⟩
    refine ⟨_, rfl, z, rfl, Nat.le_of_lt (small1000 S.len), ?_⟩
    show Q (.str _) H
    rw [show cutS z (some (i : Int)) none = ⟨((tl z).drop i).toArray⟩ from str_ext (cut_tlN z S.le)]
    exact k
def spTakeS (C : Addr) : Sp := fun vs H Q _ => ∃ (a dx : Addr) (z s : Str) (i : Nat), vs = [.ref a, .str s] ∧ Sc C H a dx z i ∧ s.length ≤ 100 ∧
  (pTake s (tl z) i = true → ∀ H', SX a H H' → Sc C H' a dx z (i + s.length) → Q (.bl true) H') ∧ (pTake s (tl z) i = false → Q (.bl false) H)
theorem ok_takeS (T : Txt K mg) : FnOk P w K mg base CX0 1 T.f_Scanner_take T.fd_Scanner_take ["self", "signs"] (spTakeS T.C_Scanner) := by
  refine T.F_Scanner_take.ok sc_Scanner_take (fun vs H Q E h => ?_) (fun cdv A outer s H vs Q E hr h => ?_)
  · obtain ⟨a, dx, z, s, i, rfl, _⟩ := h
    rfl
  · obtain ⟨a, dx, z, s, i, rfl, S, hs, kT, kF⟩ := h
    refine ⟨_, (pss_cons (ps_if (pt_cmpR op_ne (pe_slice sl_str (pe_fldK (K := K) (pv 0)) (po_some (pe_fldK (K := K) (pv 0))) (po_some (pe_op op_add (pe_fldK (K := K) (pv 0)) (pe_callB (call_lenN (K := K)) (by rfl) T.z_len (by decide +kernel) (pa_cons (pv 1) pa_nil))))) (pv 1) (nomark _))
        (pss_one (ps_ret pe_bl))
        pss_nil)
      (pss_cons (ps_fldaug (pv 0) (pe_callB (call_lenN (K := K)) (by rfl) T.z_len (by decide +kernel) (pa_cons (pv 1) pa_nil)) iop_add)
      (pss_one (ps_ret pe_bl)))), ?_⟩
    have ln : LenV K (.str s) H s.length := ⟨Nat.le_of_lt (small1000 (by omega)), rfl⟩
    refine ⟨_, rfl, a, _, dx, _, _, rfl, S.at_, T.cl_Scanner, T.at_Scanner_line, rfl, _, rfl, a, _, dx, _, _, rfl, S.at_, T.cl_Scanner, T.at_Scanner_spot, rfl, _, rfl,
      _, rfl, a, _, dx, _, _, rfl, S.at_, T.cl_Scanner, T.at_Scanner_spot, rfl, _, rfl, _, s.length, rfl, ln, _, _, rfl, rfl, _, rfl, z, rfl, Nat.le_of_lt (small1000 S.len), _, rfl, rfl, _, rfl, ?_⟩
    rw [take_eq S.le]
    cases e : pTake s (tl z) i with
    | false => exact iteT (kF e)
    | true =>
      refine iteF ?_
      refine ⟨_, rfl, a, _, dx, _, _, rfl, S.at_, T.cl_Scanner, T.at_Scanner_spot, rfl, _, rfl, _, s.length, rfl, ln, _, _, rfl, rfl, dx, _, S.at_, by show 2 < 1000; decide, ?_⟩
      exact kT e _ SX.put ⟨upd_same, take_le S.le e, S.len⟩
def spWordS (C : Addr) : Sp := fun vs H Q _ => ∃ (a dx : Addr) (z : Str) (i : Nat), vs = [.ref a] ∧ Sc C H a dx z i ∧
  (∀ x j, pWord (tl z) i = some (x, j) → ∀ H', SX a H H' → Sc C H' a dx z j → Q (.str x) H') ∧ (pWord (tl z) i = none → ∀ j H', SX a H H' → Sc C H' a dx z j → Q .non H')
def spWordG (C : Addr) : Sp := fun vs H Q _ => ∃ (a dx : Addr) (z : Str) (i : Nat), vs = [.ref a] ∧ Sc C H a dx z i ∧
  (∀ x j, pWord (tl z) i = some (x, j) → ∀ H', SX a H H' → Sc C H' a dx z j → Q (.str x) H') ∧ (pWord (tl z) i = none → ∀ j H', i ≤ j → SX a H H' → Sc C H' a dx z j → Q .non H')
theorem ok_wordG (T : Txt K mg) : FnOk P w K mg base CX0 2 T.f_Scanner_word T.fd_Scanner_word ["self"] (spWordG T.C_Scanner) := by
  have GW : FnOk P w K mg base CX0 1 T.f_is_word T.fd_is_word ["value"] (spAsk K isW) := ok_word T
  obtain ⟨t1, g_SIGNS⟩ := T.c_SIGNS
  refine T.F_Scanner_word.ok sc_Scanner_word (fun vs H Q E h => ?_) (fun cdv A outer s H vs Q E hr h => ?_)
  · obtain ⟨a, dx, z, i, rfl, _⟩ := h
    rfl
  · obtain ⟨a, dx, z, i, rfl, S, kS, kN⟩ := h
    refine ⟨_, (pss_cons (ps_set (i := 1) sc_Scanner_word.nd rfl (Or.inl rfl) (pe_fldK (K := K) (pv 0)))
      (pss_cons (ps_while PassesOwn.never (PW.pt (pw_and (pt_cmpR op_lt (pe_fldK (K := K) (pv 0)) (pe_callB (call_lenN (K := K)) (by rfl) T.z_len (by decide +kernel) (pa_cons (pe_fldK (K := K) (pv 0)) pa_nil)) (nomark _)) (pw_and1 (pt_cmpR op_in_sign (pe_ix ix_str (pe_fldK (K := K) (pv 0)) (pe_fldK (K := K) (pv 0)) (fun _ _ => rfl)) (pe_glob (v := .str sgnS) rfl g_SIGNS ⟨_, rfl⟩) rfl))))
        (pss_one (ps_fldaug (pv 0) pe_int iop_add)))
      (pss_cons (ps_set (i := 2) sc_Scanner_word.nd rfl (Or.inl rfl) (pe_slice sl_str (pe_fldK (K := K) (pv 0)) (po_some (pv 1)) (po_some (pe_fldK (K := K) (pv 0)))))
      (pss_one (ps_ret (pe_ifExp (pt_val (pe_call (ok_word T) (hr.mono (by decide)) rfl T.g_is_word T.F_is_word.kp T.b_is_word .nil pass0 (pa_cons (pv 2) pa_nil))) (pv 2) pe_non)))))), ?_⟩
    have hl : (tl z).length = z.length := (len_tl z).symm
    refine ⟨_, rfl, a, _, dx, _, _, rfl, S.at_, T.cl_Scanner, T.at_Scanner_spot, rfl, ?_⟩
    refine ⟨fun m σ H1 => ∃ j, m = z.length - j ∧ σ = [some (.ref a), some (.int i), none] ∧ SX a H H1 ∧ Sc T.C_Scanner H1 a dx z j ∧ i ≤ j ∧ ∀ n c, i ≤ n → n < j → (tl z)[n]? = some c → c ∈ tl sgnS,
      ⟨_, i, rfl, rfl, SX.refl, S, Nat.le_refl _, fun n c h1 h2 _ => by omega⟩, ?_⟩
    rintro m σ H1 ⟨j, rfl, rfl, s1, S1, hij, hsg⟩
    have ln : LenV K (.str z) H1 z.length := ⟨Nat.le_of_lt (small1000 S.len), rfl⟩
    -- the end
    have fin : (j = z.length ∨ ∃ c, (tl z)[j]? = some c ∧ c ∉ tl sgnS) → tSeq (tAsg (tSl rSlS (tFld K (tVar 0) "line") (tPart (tVar 1)) (tPart (tFld K (tVar 0) "spot"))) (gName 2)) (tRet (tIf (tB (tCall (spAsk K isW) [] E0 (tCons (tVar 2) tNil))) (tVar 2) (tC .non)))
        { nx := fun _ H' => Q .non H', rt := Q } [some (.ref a), some (.int i), none] H1 := by
      intro hend
      refine ⟨_, rfl, a, _, dx, _, _, rfl, S1.at_, T.cl_Scanner, T.at_Scanner_line, rfl, _, rfl, _, rfl, _, rfl, a, _, dx, _, _, rfl, S1.at_, T.cl_Scanner, T.at_Scanner_spot, rfl, _, rfl, z, rfl, Nat.le_of_lt (small1000 S.len), ?_⟩
      obtain ⟨n, rfl⟩ : ∃ n, j = i + n := ⟨j - i, by omega⟩
      have ec : cutS z (some (i : Int)) (some ((i + n : Nat) : Int)) = ⟨(pSigns (tl z) i).toArray⟩ := by
        apply str_ext
        have := cut_tl z (n := n) S.le
        rw [show ((i + n : Nat) : Int) = (i : Int) + n by omega, this]
        show _ = pSigns (tl z) i
        unfold pSigns
        symm
        refine tw_eq (fun c hc => ?_) ?_ ?_
        · obtain ⟨m, hm, e⟩ := List.getElem_of_mem hc
          rw [List.length_take, List.length_drop] at hm
          rw [List.getElem_take, List.getElem_drop] at e
          refine decide_eq_true (hsg (i + m) c (by omega) (by omega) ?_)
          rw [← e, List.getElem?_eq_getElem (by omega)]
        · rw [List.length_drop, hl]
          have := S1.le
          omega
        · rcases hend with h | ⟨c, h1, h2⟩
          · exact .inl (by rw [List.getElem?_drop, List.getElem?_eq_none (by omega)])
          · exact .inr ⟨c, by rw [List.getElem?_drop]; exact h1, decide_eq_false h2⟩
      rw [ec]
      have lp : (pSigns (tl z) i).length = n := by
        have : (tl (cutS z (some (i : Int)) (some ((i + n : Nat) : Int)))).length = (tl (⟨(pSigns (tl z) i).toArray⟩ : Str)).length := by rw [ec]
        rw [show tl (⟨(pSigns (tl z) i).toArray⟩ : Str) = pSigns (tl z) i from rfl, show ((i + n : Nat) : Int) = (i : Int) + n by omega, cut_tl z S.le, List.length_take, List.length_drop, hl] at this
        have := S1.le
        omega
      generalize hx : (⟨(pSigns (tl z) i).toArray⟩ : Str) = x
      have xl : x.length = n := by rw [← hx, len_tl]; exact lp
      have hw : isW x = decide (n ≤ 8) := by
        unfold isW
        rw [xl]
        have : ((tl x).all fun c => decide (c ∈ tl sgnS)) = true := by
          rw [List.all_eq_true]
          intro c hc
          rw [← hx] at hc
          exact List.all_eq_true.mp (List.all_takeWhile (p := fun c => decide (c ∈ tl sgnS)) (l := (tl z).drop i)) c hc
        rw [this, Bool.and_true]
      refine ⟨_, rfl, .str x, rfl, .inl ⟨x, rfl, by have := S1.le; have := S.len; omega⟩, fun H2 s2 => ⟨_, rfl, ?_⟩⟩
      show if isW x = true then _ else _
      rw [hw]
      have S2 := s1.trans (SX.same s2)
      by_cases h8 : n ≤ 8
      · rw [decide_eq_true h8]
        refine iteT ⟨_, rfl, kS x (i + n) ?_ H2 S2 (S1.same s2)⟩
        unfold pWord
        rw [if_pos (by rw [lp]; exact h8), lp, hx]
      · rw [decide_eq_false h8]
        refine iteF (kN ?_ _ H2 (Nat.le_add_right _ _) S2 (S1.same s2))
        unfold pWord
        rw [if_neg (by rw [lp]; exact h8)]
    refine ⟨_, rfl, a, _, dx, _, _, rfl, S1.at_, T.cl_Scanner, T.at_Scanner_spot, rfl, _, rfl, a, _, dx, _, _, rfl, S1.at_, T.cl_Scanner, T.at_Scanner_line, rfl, _, z.length, rfl, ln, _, _, rfl, rfl, _, rfl, ?_⟩
    by_cases hj : j < z.length
    · rw [decide_eq_true (show ((j : Nat) : Int) < ((z.length : Nat) : Int) by omega)]
      refine iteT ?_
      have ej : (tl z)[j]? = some ((tl z)[j]'(by omega)) := List.getElem?_eq_getElem (by omega)
      generalize (tl z)[j]'(by omega) = ch at ej
      refine ⟨_, rfl, a, _, dx, _, _, rfl, S1.at_, T.cl_Scanner, T.at_Scanner_line, rfl, _, rfl, a, _, dx, _, _, rfl, S1.at_, T.cl_Scanner, T.at_Scanner_spot, rfl, z, _, ch, rfl, rfl, Nat.le_of_lt (small1000 S.len), atI_nat ej, ch, sgnS, rfl, rfl, _, rfl, ?_⟩
      by_cases hc : ch ∈ tl sgnS
      · refine iteDT (decide_eq_true hc) ⟨fun σ' H' => ∃ m', m' < z.length - j ∧ ∃ j', m' = z.length - j' ∧ σ' = [some (.ref a), some (.int i), none] ∧ SX a H H' ∧ Sc T.C_Scanner H' a dx z j' ∧ i ≤ j' ∧ ∀ n c, i ≤ n → n < j' → (tl z)[n]? = some c → c ∈ tl sgnS, fun σ' H' h => h, ?_⟩
        refine ⟨_, rfl, a, _, dx, _, _, rfl, S1.at_, T.cl_Scanner, T.at_Scanner_spot, rfl, _, _, rfl, rfl, dx, _, S1.at_, by show 2 < 1000; decide, ?_⟩
        refine ⟨z.length - (j + 1), by omega, j + 1, rfl, rfl, s1.trans SX.put, ⟨upd_same, by omega, S.len⟩, by omega, fun n c h1 h2 h3 => ?_⟩
        by_cases e : n = j
        · rw [e, ej] at h3
          rw [← Option.some.inj h3]
          exact hc
        · exact hsg n c h1 (by omega) h3
      · exact iteDF (decide_eq_false hc) (fin (.inr ⟨ch, ej, hc⟩))
    · rw [decide_eq_false (show ¬ ((j : Nat) : Int) < ((z.length : Nat) : Int) by omega)]
      exact iteF (fin (.inl (by have := S1.le; omega)))
theorem ok_wordS (T : Txt K mg) : FnOk P w K mg base CX0 2 T.f_Scanner_word T.fd_Scanner_word ["self"] (spWordS T.C_Scanner) :=
  (ok_wordG T).imp fun vs H Q E ⟨a, dx, z, i, e, S, k1, k2⟩ => ⟨a, dx, z, i, e, S, k1, fun en j H' _ => k2 en j H'⟩
end
end Sn

/-! ## The scanner of a line: names, quoted words, parts, expressions -/
namespace Sn
open PySem PySem.Spec PyProof.Rows L2 TL
/-- a method that gives a text or None -/
def Text1 (C : Addr) (p : Ps Str) (a : Addr) (H : Hp) (Q : VK) : Prop := ∃ (dx : Addr) (z : Str) (i : Nat), Sc C H a dx z i ∧
  (∀ x j, p (tl z) i = some (x, j) → ∀ H', SX a H H' → Sc C H' a dx z j → Q (.str x) H') ∧ (p (tl z) i = none → ∀ j H', SX a H H' → Sc C H' a dx z j → Q .non H')
/-- a method that gives data or None -/
def Data1 (C : Addr) (p : Ps PyData) (a : Addr) (H : Hp) (Q : VK) : Prop := ∃ (dx : Addr) (z : Str) (i : Nat), Sc C H a dx z i ∧
  (∀ x j, p (tl z) i = some (x, j) → ∀ v H', SX a H H' → Sc C H' a dx z j → St1 H' v x → v ≠ .non → Q v H') ∧ (p (tl z) i = none → ∀ j H', SX a H H' → Sc C H' a dx z j → Q .non H')
def spT1G (C : Addr) (p : Ps Str) : Sp := fun vs H Q _ => ∃ a, vs = [.ref a] ∧ ∃ (dx : Addr) (z : Str) (i : Nat), Sc C H a dx z i ∧
  (∀ x j, p (tl z) i = some (x, j) → ∀ H', SX a H H' → Sc C H' a dx z j → Q (.str x) H') ∧ (p (tl z) i = none → ∀ j H', i ≤ j → SX a H H' → Sc C H' a dx z j → Q .non H')
def spT1 (C : Addr) (p : Ps Str) : Sp := fun vs H Q _ => ∃ a, vs = [.ref a] ∧ Text1 C p a H Q
def spD1 (C : Addr) (p : Ps PyData) : Sp := fun vs H Q _ => ∃ a, vs = [.ref a] ∧ Data1 C p a H Q
theorem take_eq1 {z s : Str} {i : Nat} (h : i ≤ z.length) (h1 : s.length = 1) : decide (V.str (cutS z (some (i : Int)) (some ((i : Int) + 1))) = V.str s) = pTake s (tl z) i := by
  have := take_eq (s := s) h
  rw [h1] at this
  exact this
section
variable {P : Program} {w : World} {K : PySem.W.Frag} {mg : Str → Option Value} {base : Heap}
theorem arg_non {H : Hp} : Arg K H .non := .inr ⟨_, .base .non, kit_ty (by decide +kernel)⟩
theorem isN_len8 {x : Str} {L : List Nat} {i j : Nat} (h : pWord L i = some (x, j)) : x.length ≤ 8 ∧ j = i + x.length := by
  unfold pWord at h
  split at h
  · rename_i h8
    simp only [Option.some.injEq, Prod.mk.injEq] at h
    obtain ⟨rfl, rfl⟩ := h
    have : (⟨(pSigns L i).toArray⟩ : Str).length = (pSigns L i).length := len_tl _
    rw [this]
    exact ⟨h8, rfl⟩
  · cases h
theorem ok_nnameG (T : Txt K mg) : FnOk P w K mg base CX0 3 T.f_Scanner_next_name T.fd_Scanner_next_name ["self"] (spT1G T.C_Scanner pName) := by
  have GW : FnOk P w K mg base CX0 2 T.f_Scanner_word T.fd_Scanner_word ["self"] (spWordG T.C_Scanner) := ok_wordG T
  have GN : FnOk P w K mg base CX0 2 T.f_is_name T.fd_is_name ["value"] (spAsk K isN) := ok_name T
  refine T.F_Scanner_next_name.ok sc_Scanner_next_name (fun vs H Q E h => ?_) (fun cdv A outer s H vs Q E hr h => ?_)
  · obtain ⟨a, rfl, _⟩ := h
    rfl
  · obtain ⟨a, rfl, dx, z, i, S, kS, kN⟩ := h
    refine ⟨_, (pss_cons (ps_set (i := 1) sc_Scanner_next_name.nd rfl (Or.inl rfl) (pe_meth0 (pv 0) T.cl_Scanner T.m_Scanner_word (ok_wordG T) (hr.mono (by decide)) T.b_Scanner_word .nil pass0))
      (pss_one (ps_ret (pe_ifExp (pt_val (pe_call (ok_name T) (hr.mono (by decide)) rfl T.g_is_name T.F_is_name.kp T.b_is_name .nil pass0 (pa_cons (pv 1) pa_nil))) (pv 1) pe_non)))), ?_⟩
    refine ⟨_, rfl, a, dx, _, rfl, S.at_, rfl, a, dx, z, i, rfl, S, fun x j e H1 s1 S1 => ?_, fun e j H1 hj s1 S1 => ?_⟩
    · have x8 := (isN_len8 e).1
      refine ⟨_, rfl, .str x, rfl, .inl ⟨x, rfl, by omega⟩, fun H2 s2 => ⟨_, rfl, ?_⟩⟩
      show if isN x = true then _ else _
      cases hn : isN x with
      | true => exact iteT ⟨_, rfl, kS x j (by unfold pName; rw [e]; simp [hn]) H2 (s1.trans (SX.same s2)) (S1.same s2)⟩
      | false => exact iteF (kN (by unfold pName; rw [e]; simp [hn]) j H2 (by have := (isN_len8 e).2; omega) (s1.trans (SX.same s2)) (S1.same s2))
    · refine ⟨_, rfl, .non, rfl, arg_non, fun H2 s2 => ⟨_, rfl, iteF ?_⟩⟩
      exact kN (by unfold pName; rw [e]; rfl) j H2 hj (s1.trans (SX.same s2)) (S1.same s2)
theorem ok_nname (T : Txt K mg) : FnOk P w K mg base CX0 3 T.f_Scanner_next_name T.fd_Scanner_next_name ["self"] (spT1 T.C_Scanner pName) :=
  (ok_nnameG T).imp fun vs H Q E ⟨a, e, dx, z, i, S, k1, k2⟩ => ⟨a, e, dx, z, i, S, k1, fun en j H' _ => k2 en j H'⟩
def spQuo (C : Addr) : Sp := fun vs H Q _ => ∃ (a : Addr) (x y : Str), vs = [.ref a, .str x, .str y] ∧ x.length ≤ 100 ∧ y.length ≤ 100 ∧ Text1 C (pQuoted x y) a H Q
theorem ok_quoted (T : Txt K mg) : FnOk P w K mg base CX0 3 T.f_Scanner_quoted T.fd_Scanner_quoted ["self", "ahead", "behind"] (spQuo T.C_Scanner) := by
  have GW : FnOk P w K mg base CX0 2 T.f_Scanner_word T.fd_Scanner_word ["self"] (spWordS T.C_Scanner) := ok_wordS T
  have GT : FnOk P w K mg base CX0 1 T.f_Scanner_take T.fd_Scanner_take ["self", "signs"] (spTakeS T.C_Scanner) := ok_takeS T
  refine T.F_Scanner_quoted.ok sc_Scanner_quoted (fun vs H Q E h => ?_) (fun cdv A outer s H vs Q E hr h => ?_)
  · obtain ⟨a, x, y, rfl, _⟩ := h
    rfl
  · obtain ⟨a, x, y, rfl, hx, hy, dx, z, i, S, kS, kN⟩ := h
    refine ⟨_, (pss_cons (ps_set (i := 3) sc_Scanner_quoted.nd rfl (Or.inl rfl) (pe_ifExp (pt_val (pe_meth (pv 0) T.cl_Scanner T.m_Scanner_take (ok_takeS T) (hr.mono (by decide)) T.b_Scanner_take .nil pass0 (pa_cons (pv 1) pa_nil))) (pe_meth0 (pv 0) T.cl_Scanner T.m_Scanner_word (ok_wordS T) (hr.mono (by decide)) T.b_Scanner_word .nil pass0) pe_non))
      (pss_one (ps_ret (pe_ifExp (pt_val (pe_meth (pv 0) T.cl_Scanner T.m_Scanner_take (ok_takeS T) (hr.mono (by decide)) T.b_Scanner_take .nil pass0 (pa_cons (pv 2) pa_nil))) (pv 3) pe_non)))), ?_⟩
    refine ⟨_, rfl, a, dx, _, rfl, S.at_, rfl, _, rfl, a, dx, z, x, i, rfl, S, hx, fun e1 H1 s1 S1 => ⟨_, rfl, iteT ?_⟩, fun e1 => ⟨_, rfl, iteF ?_⟩⟩
    · refine ⟨_, rfl, a, dx, _, rfl, S1.at_, rfl, a, dx, z, _, rfl, S1, fun w j e2 H2 s2 S2 => ?_, fun e2 j H2 s2 S2 => ?_⟩
      · refine ⟨_, rfl, a, dx, _, rfl, S2.at_, rfl, _, rfl, a, dx, z, y, j, rfl, S2, hy, fun e3 H3 s3 S3 => ⟨_, rfl, iteT ?_⟩, fun e3 => ⟨_, rfl, iteF ?_⟩⟩
        · exact ⟨_, rfl, kS w _ (by simp [pQuoted, pBef, pAft, e1, e2, e3]) H3 ((s1.trans s2).trans s3) S3⟩
        · exact kN (by simp [pQuoted, pBef, pAft, e1, e2, e3]) _ H2 (s1.trans s2) S2
      · have en : pQuoted x y (tl z) i = none := by simp [pQuoted, pBef, pAft, e1, e2]
        refine ⟨_, rfl, a, dx, _, rfl, S2.at_, rfl, _, rfl, a, dx, z, y, j, rfl, S2, hy, fun e3 H3 s3 S3 => ⟨_, rfl, iteT ?_⟩, fun e3 => ⟨_, rfl, iteF ?_⟩⟩
        · exact ⟨_, rfl, kN en _ H3 ((s1.trans s2).trans s3) S3⟩
        · exact kN en _ H2 (s1.trans s2) S2
    · have en : pQuoted x y (tl z) i = none := by simp [pQuoted, pBef, pAft, e1]
      refine ⟨_, rfl, a, dx, _, rfl, S.at_, rfl, _, rfl, a, dx, z, y, i, rfl, S, hy, fun e3 H3 s3 S3 => ⟨_, rfl, iteT ?_⟩, fun e3 => ⟨_, rfl, iteF ?_⟩⟩
      · exact ⟨_, rfl, kN en _ H3 s3 S3⟩
      · exact kN en _ H SX.refl S
theorem ok_part (T : Txt K mg) : FnOk P w K mg base CX0 4 T.f_Scanner_part T.fd_Scanner_part ["self"] (spD1 T.C_Scanner pPart) := by
  have GQ : FnOk P w K mg base CX0 3 T.f_Scanner_quoted T.fd_Scanner_quoted ["self", "ahead", "behind"] (spQuo T.C_Scanner) := ok_quoted T
  have GN : FnOk P w K mg base CX0 3 T.f_Scanner_next_name T.fd_Scanner_next_name ["self"] (spT1 T.C_Scanner pName) := ok_nname T
  refine T.F_Scanner_part.ok sc_Scanner_part (fun vs H Q E h => ?_) (fun cdv A outer s H vs Q E hr h => ?_)
  · obtain ⟨a, rfl, _⟩ := h
    rfl
  · obtain ⟨a, rfl, dx, z, i, S, kS, kN⟩ := h
    refine ⟨_, (pss_cons (ps_if (pt_cmpR op_eq (pe_slice sl_str (pe_fldK (K := K) (pv 0)) (po_some (pe_fldK (K := K) (pv 0))) (po_some (pe_op op_add (pe_fldK (K := K) (pv 0)) pe_int))) pe_str (nomark _))
        (pss_cons (ps_set (i := 1) sc_Scanner_part.nd rfl (Or.inl rfl) (pe_meth (pv 0) T.cl_Scanner T.m_Scanner_quoted (ok_quoted T) (hr.mono (by decide)) T.b_Scanner_quoted .nil pass0 (pa_cons pe_str (pa_cons pe_str pa_nil))))
      (pss_one (ps_ret (pe_ifExp (pt_cmpR op_isN (pv 1) pe_non (nomark _)) pe_non (pe_tup (pa_cons pe_str (pa_cons (pv 1) pa_nil)))))))
        pss_nil)
      (pss_cons (ps_set (i := 2) sc_Scanner_part.nd rfl (Or.inl rfl) (pe_meth0 (pv 0) T.cl_Scanner T.m_Scanner_next_name (ok_nname T) (hr.mono (by decide)) T.b_Scanner_next_name .nil pass0))
      (pss_one (ps_ret (pe_ifExp (pt_cmpR op_isN (pv 2) pe_non (nomark _)) pe_non (pe_tup (pa_cons pe_str (pa_cons (pv 2) pa_nil)))))))), ?_⟩
    have q1 : ("\"" : Str).length = 1 := by decide +kernel
    refine ⟨_, rfl, a, _, dx, _, _, rfl, S.at_, T.cl_Scanner, T.at_Scanner_line, rfl, _, rfl, a, _, dx, _, _, rfl, S.at_, T.cl_Scanner, T.at_Scanner_spot, rfl, _, rfl,
      _, rfl, a, _, dx, _, _, rfl, S.at_, T.cl_Scanner, T.at_Scanner_spot, rfl, _, _, rfl, rfl, _, rfl, z, rfl, Nat.le_of_lt (small1000 S.len), rfl, _, rfl, ?_⟩
    rw [take_eq1 S.le q1]
    cases e0 : pTake "\"" (tl z) i with
    | true =>
      refine iteT ?_
      refine ⟨_, rfl, a, dx, _, rfl, S.at_, rfl, a, "\"", "\"", rfl, by omega, by omega, dx, z, i, S, fun x j e H1 s1 S1 => ?_, fun e j H1 s1 S1 => ?_⟩
      · refine ⟨_, rfl, rfl, _, rfl, iteF ⟨_, rfl, (by show 2 ≤ sizeLine; decide), fun p hp => ?_⟩⟩
        have sp := same_new (o := .tup [.str "text", .str x]) hp
        exact kS _ j (by unfold pPart; rw [e0, if_pos rfl]; unfold pMap; rw [e]; rfl) _ _ (s1.trans (SX.same sp)) (S1.same sp) (St1.tup hp (.cons (.str _) (.cons (.str _) .nil))) (fun z => nomatch z)
      · refine ⟨_, rfl, rfl, _, rfl, iteT ?_⟩
        exact kN (by unfold pPart; rw [e0, if_pos rfl]; unfold pMap; rw [e]; rfl) j H1 s1 S1
    | false =>
      refine iteF ?_
      refine ⟨_, rfl, a, dx, _, rfl, S.at_, rfl, a, rfl, dx, z, i, S, fun x j e H1 s1 S1 => ?_, fun e j H1 s1 S1 => ?_⟩
      · refine ⟨_, rfl, rfl, _, rfl, iteF ⟨_, rfl, (by show 2 ≤ sizeLine; decide), fun p hp => ?_⟩⟩
        have sp := same_new (o := .tup [.str "name", .str x]) hp
        exact kS _ j (by unfold pPart; rw [e0, if_neg (by decide)]; unfold pMap; rw [e]; rfl) _ _ (s1.trans (SX.same sp)) (S1.same sp) (St1.tup hp (.cons (.str _) (.cons (.str _) .nil))) (fun z => nomatch z)
      · refine ⟨_, rfl, rfl, _, rfl, iteT ?_⟩
        exact kN (by unfold pPart; rw [e0, if_neg (by decide)]; unfold pMap; rw [e]; rfl) j H1 s1 S1
end
end Sn

/-! ## The scanner of a line: expressions -/
namespace Sn
open PySem PySem.Spec PyProof.Rows L2 TL
/-- behind the parts ds, at j -/
def pMore (f : Nat) (ds : List PyData) (L : List Nat) (j : Nat) : Option (List PyData × Nat) := if pTake " + " L j = true then (pParts f L (j + 3)).map fun q => (ds ++ q.1, q.2) else some (ds, j)
theorem pParts_more (f : Nat) (L : List Nat) (i : Nat) : pParts (f + 1) L i = (pPart L i).bind fun r => pMore f [r.1] L r.2 := by
  show (pPart L i).bind _ = _
  rfl
theorem pMore_go {f : Nat} {ds : List PyData} {L : List Nat} {j : Nat} (h : pTake " + " L j = true) : pMore (f + 1) ds L j = (pPart L (j + 3)).bind fun r => pMore f (ds ++ [r.1]) L r.2 := by
  unfold pMore
  rw [if_pos h, pParts_more]
  cases e : pPart L (j + 3) with
  | none => rfl
  | some r =>
    show Option.map _ (pMore f [r.1] L r.2) = pMore f (ds ++ [r.1]) L r.2
    unfold pMore
    split
    · rw [Option.map_map]
      congr 1
      funext q
      simp
    · rfl
theorem pMore_stop {f : Nat} {ds : List PyData} {L : List Nat} {j : Nat} (h : pTake " + " L j = false) : pMore f ds L j = some (ds, j) := by
  unfold pMore
  rw [if_neg (by rw [h]; decide)]
theorem SX.none {x q : Addr} {H H1 : Hp} {o : HO} (s : SX x H H1) (hx : H1 x = some o) (h : H1 q = none) : H q = none := by
  cases e : H q with
  | none => rfl
  | some u =>
    by_cases hq : q = x
    · rw [hq, hx] at h; cases h
    · rw [s _ _ hq e] at h; cases h
theorem pWord_ge {L : List Nat} {i j : Nat} {x : Str} (h : pWord L i = some (x, j)) : i ≤ j := by
  have := (isN_len8 h).2
  omega
theorem pName_ge {L : List Nat} {i j : Nat} {x : Str} (h : pName L i = some (x, j)) : i ≤ j := by
  unfold pName at h
  cases e : pWord L i with
  | none => rw [e] at h; cases h
  | some r =>
    rw [e] at h
    simp only [Option.bind_some] at h
    split at h
    · cases h
      exact pWord_ge e
    · cases h
theorem pQuoted_ge {x y : Str} {L : List Nat} {i j : Nat} {v : Str} (h : pQuoted x y L i = some (v, j)) : i ≤ j := by
  unfold pQuoted pBef pAft at h
  split at h
  · cases e : pWord L (i + x.length) with
    | none => rw [e] at h; cases h
    | some r =>
      rw [e] at h
      simp only [Option.bind_some] at h
      split at h
      · cases h
        have := pWord_ge e
        omega
      · cases h
  · cases h
theorem pMap_some {α β : Type} {f : α → β} {p : Ps α} {L : List Nat} {i j : Nat} {y : β} (h : pMap f p L i = some (y, j)) : ∃ x, p L i = some (x, j) ∧ y = f x := by
  unfold pMap at h
  cases e : p L i with
  | none => rw [e] at h; cases h
  | some r =>
    rw [e] at h
    cases h
    exact ⟨_, rfl, rfl⟩
theorem pPart_ge {L : List Nat} {i j : Nat} {x : PyData} (h : pPart L i = some (x, j)) : i ≤ j := by
  unfold pPart at h
  split at h
  · obtain ⟨y, e, _⟩ := pMap_some h
    exact pQuoted_ge e
  · obtain ⟨y, e, _⟩ := pMap_some h
    exact pName_ge e
/-- the parts so far: at q, the spot j -/
def ExI (C a dx : Addr) (z : Str) (i : Nat) (H : Hp) (m : Nat) (σ : L2.St) (H1 : Hp) : Prop := ∃ (q : Addr) (xs : List V) (x : V) (j n : Nat), σ = [some (.ref a), some (.ref q)] ∧ SX a H H1 ∧ H q = none ∧ q ≠ a ∧ Sc C H1 a dx z j ∧ H1 q = some (.lst (xs ++ [x])) ∧ xs.length = n ∧ 3 * n ≤ z.length ∧
  ((∃ ds d f, StA H1 xs ds ∧ St1 H1 x d ∧ x ≠ .non ∧ pParts (z.length + 1) (tl z) i = pMore f (ds ++ [d]) (tl z) j ∧ f + n = z.length ∧ 3 * n ≤ j ∧ m = z.length - j + 1) ∨ (x = .non ∧ pParts (z.length + 1) (tl z) i = none ∧ m = 0))
section
variable {P : Program} {w : World} {K : PySem.W.Frag} {mg : Str → Option Value} {base : Heap}
theorem ok_expr (T : Txt K mg) : FnOk P w K mg base CX0 5 T.f_Scanner_expr T.fd_Scanner_expr ["self"] (spD1 T.C_Scanner pExpr) := by
  have GP : FnOk P w K mg base CX0 4 T.f_Scanner_part T.fd_Scanner_part ["self"] (spD1 T.C_Scanner pPart) := ok_part T
  have GT : FnOk P w K mg base CX0 1 T.f_Scanner_take T.fd_Scanner_take ["self", "signs"] (spTakeS T.C_Scanner) := ok_takeS T
  obtain ⟨t1, g_MOST_PARTS⟩ := T.c_MOST_PARTS
  refine T.F_Scanner_expr.ok sc_Scanner_expr (fun vs H Q E h => ?_) (fun cdv A outer s H vs Q E hr h => ?_)
  · obtain ⟨a, rfl, _⟩ := h
    rfl
  · obtain ⟨a, rfl, dx, z, i, S, kS, kN⟩ := h
    refine ⟨_, (C8.pss_cut (ps_set (i := 1) sc_Scanner_expr.nd rfl (Or.inl rfl) (pe_lst (pa_cons (pe_meth0 (pv 0) T.cl_Scanner T.m_Scanner_part (ok_part T) (hr.mono (by decide)) T.b_Scanner_part .nil pass0) pa_nil)))
      (pss_cons (ps_while PassesOwn.never (PW.pt (pw_and (pt_cmpR op_notN (pe_ix (ix_listK (K := K)) (pv 1) (pe_un un_neg pe_int) (fun _ _ => rfl)) pe_non (nomark _)) (pw_and1 (pt_val (pe_meth (pv 0) T.cl_Scanner T.m_Scanner_take (ok_takeS T) (hr.mono (by decide)) T.b_Scanner_take .nil pass0 (pa_cons pe_str pa_nil))))))
        (pss_one (ps_expr (pe_bm PySem.F.plainAttrs_list PySem.F.slot_list_append PySem.F.type_list_append mt_append (pv 1) (pa_cons (pe_meth0 (pv 0) T.cl_Scanner T.m_Scanner_part (ok_part T) (hr.mono (by decide)) T.b_Scanner_part .nil pass0) pa_nil)))))
      (pss_one (ps_ret (pe_ifExp (PW.pt (pw_or (pt_cmpR op_isN (pe_ix (ix_listK (K := K)) (pv 1) (pe_un un_neg pe_int) (fun _ _ => rfl)) pe_non (nomark _)) (pw_or1 (pt_cmpR op_gt (pe_callB (call_lenN (K := K)) (by rfl) T.z_len (by decide +kernel) (pa_cons (pv 1) pa_nil)) (pe_glob (v := .int 4) rfl g_MOST_PARTS ⟨_, rfl⟩) (nomark _))))) pe_non (pe_callTy call_tuple_of (by rfl) T.z_tuple (by decide +kernel) (pa_cons (pv 1) pa_nil))))))), ?_⟩
    have hl : (tl z).length = z.length := (len_tl z).symm
    have l3 : (" + " : Str).length = 3 := by decide +kernel
    refine ⟨fun σ H1 => ∃ m, ExI T.C_Scanner a dx z i H m σ H1, ?_, ?_⟩
    · refine ⟨_, rfl, a, dx, _, rfl, S.at_, rfl, a, rfl, dx, z, i, S, fun d j e v H1 s1 S1 hv nv => ?_, fun e j H1 s1 S1 => ?_⟩
      · refine ⟨(by show 1 ≤ sizeLine; decide), fun q hq => ?_⟩
        have sq := same_new (o := .lst [v]) hq
        refine ⟨_, q, [], v, j, 0, rfl, s1.trans (SX.same sq), SX.none s1 S1.at_ hq, (ne_of_none S1.at_ hq).symm, S1.same sq, upd_same, rfl, by omega, .inl ⟨[], d, z.length, .nil, hv.mv (MvT.same sq), nv, ?_, by omega, by omega, rfl⟩⟩
        rw [pParts_more, e]; rfl
      · refine ⟨(by show 1 ≤ sizeLine; decide), fun q hq => ?_⟩
        have sq := same_new (o := .lst [.non]) hq
        refine ⟨_, q, [], .non, j, 0, rfl, s1.trans (SX.same sq), SX.none s1 S1.at_ hq, (ne_of_none S1.at_ hq).symm, S1.same sq, upd_same, rfl, by omega, .inr ⟨rfl, ?_, rfl⟩⟩
        rw [pParts_more, e]; rfl
    · rintro σ0 H0 p0
      refine ⟨ExI T.C_Scanner a dx z i H, p0, ?_⟩
      rintro m σ H1 ⟨q, xs, x, j, n, rfl, s1, hq0, nqa, S1, hq, ln, hn, way⟩
      have sq1 : SqL K H1 q (xs ++ [x]) := .inl (.inl hq)
      have nlen := S.len
      refine ⟨_, rfl, _, rfl, q, _, _, _, rfl, rfl, sq1, atI_last _ _, rfl, _, rfl, ?_⟩
      rcases way with ⟨ds, d, f, hxs, hx, nx, ep, ef, hnj, rfl⟩ | ⟨rfl, ep, rfl⟩
      · refine iteDT (by simp [nx]) ?_
        refine ⟨_, rfl, a, dx, _, rfl, S1.at_, rfl, a, dx, z, " + ", j, rfl, S1, by omega, fun e3 H2 s2 S2 => ⟨_, rfl, iteT ?_⟩, fun e3 => ⟨_, rfl, iteF ?_⟩⟩
        · refine ⟨fun σ' H' => ∃ m', m' < z.length - j + 1 ∧ ExI T.C_Scanner a dx z i H m' σ' H', fun σ' H' h => h, ?_⟩
          have hle := S2.le
          rw [l3] at S2 hle
          obtain ⟨f, rfl⟩ : ∃ g, f = g + 1 := ⟨f - 1, by omega⟩
          have hq2 := s2 _ _ nqa hq
          have mv2 := S1.mvT s2
          refine ⟨_, rfl, .inl ⟨rfl, _, .inl (.inl hq2)⟩, _, rfl, a, dx, _, rfl, S2.at_, rfl, a, rfl, dx, z, j + 3, S2, fun d' j' e v H3 s3 S3 hv nv => ?_, fun e j' H3 s3 S3 => ?_⟩
          · have ge := pPart_ge e
            have le3 := S3.le
            have hq3 := s3 _ _ nqa hq2
            have mv3 := mv2.trans (S2.mvT s3)
            refine ⟨q, _, _, rfl, rfl, hq3, small1000 (by rw [List.length_append, ln]; show n + 1 ≤ 1000; omega), ?_⟩
            refine ⟨_, (by omega : z.length - j' + 1 < _), q, xs ++ [x], v, j', n + 1, rfl, fun b o nb eb => ?_, hq0, nqa, ⟨by rw [upd_ne nqa.symm]; exact S3.at_, S3.le, S3.len⟩, upd_same, by rw [List.length_append, ln]; rfl, by omega, .inl ⟨ds ++ [d], d', f, ?_, hv.mv (MvT.put hq3), nv, ?_, by omega, by omega, rfl⟩⟩
            · rw [upd_ne (ne_of_none eb hq0)]
              exact s3 _ _ nb (s2 _ _ nb (s1 _ _ nb eb))
            · exact ((hxs.mv mv3).app (.cons (hx.mv mv3) .nil)).mv (MvT.put hq3)
            · rw [ep, pMore_go e3, e]; rfl
          · have hq3 := s3 _ _ nqa hq2
            refine ⟨q, _, _, rfl, rfl, hq3, small1000 (by rw [List.length_append, ln]; show n + 1 ≤ 1000; omega), ?_⟩
            refine ⟨0, by omega, q, xs ++ [x], .non, j', n + 1, rfl, fun b o nb eb => ?_, hq0, nqa, ⟨by rw [upd_ne nqa.symm]; exact S3.at_, S3.le, S3.len⟩, upd_same, by rw [List.length_append, ln]; rfl, by omega, .inr ⟨rfl, ?_, rfl⟩⟩
            · rw [upd_ne (ne_of_none eb hq0)]
              exact s3 _ _ nb (s2 _ _ nb (s1 _ _ nb eb))
            · rw [ep, pMore_go e3, e]; rfl
        · have ep2 : pParts ((tl z).length + 1) (tl z) i = some (ds ++ [d], j) := by rw [hl, ep, pMore_stop e3]
          have ld : (ds ++ [d]).length = n + 1 := by rw [List.length_append, ← hxs.at.len, ln]; rfl
          refine ⟨_, rfl, _, rfl, q, _, _, _, rfl, rfl, sq1, atI_last _ _, rfl, _, rfl, iteDF (by simp [nx]) ?_⟩
          refine ⟨_, rfl, _, (xs ++ [x]).length, rfl, .inl ⟨_, sq1, rfl⟩, _, _, rfl, rfl, _, rfl, ?_⟩
          have lx : (xs ++ [x]).length = n + 1 := by rw [List.length_append, ln]; rfl
          rw [lx]
          by_cases h4 : n + 1 ≤ 4
          · refine iteDF (decide_eq_false (by omega)) ?_
            refine ⟨_, rfl, q, _, rfl, .inl ⟨sq1, fun t ht => ?_⟩⟩
            have st := same_new (o := .tup (xs ++ [x])) ht
            refine kS (.tuple (ds ++ [d])) j ?_ _ _ (s1.trans (SX.same st)) (S1.same st) (St1.tup ht (hxs.app (.cons hx .nil))) (fun z => nomatch z)
            unfold pExpr
            rw [ep2]
            simp only [Option.bind_some]
            rw [if_pos (by rw [ld]; exact h4)]
          · refine iteDT (decide_eq_true (by omega)) ?_
            refine kN ?_ j H1 s1 S1
            unfold pExpr
            rw [ep2]
            simp only [Option.bind_some]
            rw [if_neg (by rw [ld]; exact h4)]
      · refine iteDF rfl (iteF ?_)
        refine ⟨_, rfl, _, rfl, q, _, _, _, rfl, rfl, sq1, atI_last _ _, rfl, _, rfl, iteDT rfl (iteT ?_)⟩
        refine kN ?_ j H1 s1 S1
        unfold pExpr
        rw [hl, ep]; rfl
end
end Sn

/-! ## The scanner of a line: built names, targets, lists -/
namespace Sn
open PySem PySem.Spec PyProof.Rows L2 TL
theorem l1b : ("[" : Str).length = 1 := by decide +kernel
theorem l1e : ("]" : Str).length = 1 := by decide +kernel
theorem pName_gt {L : List Nat} {i j : Nat} {x : Str} (h : pName L i = some (x, j)) : i < j := by
  unfold pName at h
  cases e : pWord L i with
  | none => rw [e] at h; cases h
  | some r =>
    rw [e] at h
    simp only [Option.bind_some] at h
    split at h
    · rename_i hn
      cases h
      have := (isN_len8 e).2
      have hx : 0 < x.length := by
        rw [len_tl]
        unfold isN fstL at hn
        cases hz : tl x with
        | nil => simp [hz] at hn
        | cons c r => simp
      omega
    · cases h
theorem pQuoted_gt {x y : Str} {L : List Nat} {i j : Nat} {v : Str} (hx : 0 < x.length) (h : pQuoted x y L i = some (v, j)) : i < j := by
  unfold pQuoted pBef pAft at h
  split at h
  · cases e : pWord L (i + x.length) with
    | none => rw [e] at h; cases h
    | some r =>
      rw [e] at h
      simp only [Option.bind_some] at h
      split at h
      · cases h
        have := pWord_ge e
        omega
      · cases h
  · cases h
theorem pPart_gt {L : List Nat} {i j : Nat} {x : PyData} (h : pPart L i = some (x, j)) : i < j := by
  unfold pPart at h
  split at h
  · obtain ⟨y, e, _⟩ := pMap_some h
    exact pQuoted_gt (by decide +kernel) e
  · obtain ⟨y, e, _⟩ := pMap_some h
    exact pName_gt e
theorem pParts_gt : ∀ {f : Nat} {L : List Nat} {i j : Nat} {x : List PyData}, pParts f L i = some (x, j) → i < j
  | 0, _, _, _, _, h => by cases h
  | f + 1, L, i, j, x, h => by
    rw [pParts_more] at h
    cases e : pPart L i with
    | none => rw [e] at h; cases h
    | some r =>
      rw [e] at h
      have g := pPart_gt e
      simp only [Option.bind_some] at h
      unfold pMore at h
      split at h
      · cases e2 : pParts f L (r.2 + 3) with
        | none => rw [e2] at h; cases h
        | some t =>
          rw [e2] at h
          cases h
          have := pParts_gt e2
          omega
      · cases h
        exact g
theorem pExpr_gt {L : List Nat} {i j : Nat} {x : PyData} (h : pExpr L i = some (x, j)) : i < j := by
  unfold pExpr at h
  cases e : pParts (L.length + 1) L i with
  | none => rw [e] at h; cases h
  | some r =>
    rw [e] at h
    simp only [Option.bind_some] at h
    split at h
    · cases h
      exact pParts_gt e
    · cases h
section
variable {P : Program} {w : World} {K : PySem.W.Frag} {mg : Str → Option Value} {base : Heap}
theorem ok_built (T : Txt K mg) : FnOk P w K mg base CX0 6 T.f_Scanner_built T.fd_Scanner_built ["self"] (spD1 T.C_Scanner pBuilt) := by
  have GE : FnOk P w K mg base CX0 5 T.f_Scanner_expr T.fd_Scanner_expr ["self"] (spD1 T.C_Scanner pExpr) := ok_expr T
  have GT : FnOk P w K mg base CX0 1 T.f_Scanner_take T.fd_Scanner_take ["self", "signs"] (spTakeS T.C_Scanner) := ok_takeS T
  refine T.F_Scanner_built.ok sc_Scanner_built (fun vs H Q E h => ?_) (fun cdv A outer s H vs Q E hr h => ?_)
  · obtain ⟨a, rfl, _⟩ := h
    rfl
  · obtain ⟨a, rfl, dx, z, i, S, kS, kN⟩ := h
    refine ⟨_, (pss_cons (ps_set (i := 1) sc_Scanner_built.nd rfl (Or.inl rfl) (pe_ifExp (pt_val (pe_meth (pv 0) T.cl_Scanner T.m_Scanner_take (ok_takeS T) (hr.mono (by decide)) T.b_Scanner_take .nil pass0 (pa_cons pe_str pa_nil))) (pe_meth0 (pv 0) T.cl_Scanner T.m_Scanner_expr (ok_expr T) (hr.mono (by decide)) T.b_Scanner_expr .nil pass0) pe_non))
      (pss_one (ps_ret (pe_ifExp (pt_val (pe_meth (pv 0) T.cl_Scanner T.m_Scanner_take (ok_takeS T) (hr.mono (by decide)) T.b_Scanner_take .nil pass0 (pa_cons pe_str pa_nil))) (pv 1) pe_non)))), ?_⟩
    have hx := l1b
    have hy := l1e
    refine ⟨_, rfl, a, dx, _, rfl, S.at_, rfl, a, dx, z, "[", i, rfl, S, by omega, fun e1 H1 s1 S1 => ⟨_, rfl, iteT ?_⟩, fun e1 => ⟨_, rfl, iteF ?_⟩⟩
    · refine ⟨_, rfl, a, dx, _, rfl, S1.at_, rfl, a, rfl, dx, z, _, S1, fun d j e2 v H2 s2 S2 hv nv => ?_, fun e2 j H2 s2 S2 => ?_⟩
      · refine ⟨_, rfl, a, dx, _, rfl, S2.at_, rfl, a, dx, z, "]", j, rfl, S2, by omega, fun e3 H3 s3 S3 => ⟨_, rfl, iteT ?_⟩, fun e3 => ⟨_, rfl, iteF ?_⟩⟩
        · exact ⟨_, rfl, kS d _ (by simp [pBuilt, pBef, pAft, e1, e2, e3]) v H3 ((s1.trans s2).trans s3) S3 (hv.mv (S2.mvT s3)) nv⟩
        · exact kN (by simp [pBuilt, pBef, pAft, e1, e2, e3]) _ H2 (s1.trans s2) S2
      · have en : pBuilt (tl z) i = none := by simp [pBuilt, pBef, pAft, e1, e2]
        refine ⟨_, rfl, a, dx, _, rfl, S2.at_, rfl, a, dx, z, "]", j, rfl, S2, by omega, fun e3 H3 s3 S3 => ⟨_, rfl, iteT ?_⟩, fun e3 => ⟨_, rfl, iteF ?_⟩⟩
        · exact ⟨_, rfl, kN en _ H3 ((s1.trans s2).trans s3) S3⟩
        · exact kN en _ H2 (s1.trans s2) S2
    · have en : pBuilt (tl z) i = none := by simp [pBuilt, pBef, pAft, e1]
      refine ⟨_, rfl, a, dx, _, rfl, S.at_, rfl, a, dx, z, "]", i, rfl, S, by omega, fun e3 H3 s3 S3 => ⟨_, rfl, iteT ?_⟩, fun e3 => ⟨_, rfl, iteF ?_⟩⟩
      · exact ⟨_, rfl, kN en _ H3 s3 S3⟩
      · exact kN en _ H SX.refl S
theorem ok_target (T : Txt K mg) : FnOk P w K mg base CX0 7 T.f_Scanner_target T.fd_Scanner_target ["self"] (spD1 T.C_Scanner pTarget) := by
  have GB : FnOk P w K mg base CX0 6 T.f_Scanner_built T.fd_Scanner_built ["self"] (spD1 T.C_Scanner pBuilt) := ok_built T
  have GN : FnOk P w K mg base CX0 3 T.f_Scanner_next_name T.fd_Scanner_next_name ["self"] (spT1 T.C_Scanner pName) := ok_nname T
  refine T.F_Scanner_target.ok sc_Scanner_target (fun vs H Q E h => ?_) (fun cdv A outer s H vs Q E hr h => ?_)
  · obtain ⟨a, rfl, _⟩ := h
    rfl
  · obtain ⟨a, rfl, dx, z, i, S, kS, kN⟩ := h
    refine ⟨_, (pss_cons (ps_if (pt_cmpR op_eq (pe_slice sl_str (pe_fldK (K := K) (pv 0)) (po_some (pe_fldK (K := K) (pv 0))) (po_some (pe_op op_add (pe_fldK (K := K) (pv 0)) pe_int))) pe_str (nomark _))
        (pss_cons (ps_set (i := 1) sc_Scanner_target.nd rfl (Or.inl rfl) (pe_meth0 (pv 0) T.cl_Scanner T.m_Scanner_built (ok_built T) (hr.mono (by decide)) T.b_Scanner_built .nil pass0))
      (pss_one (ps_ret (pe_ifExp (pt_cmpR op_isN (pv 1) pe_non (nomark _)) pe_non (pe_tup (pa_cons pe_str (pa_cons (pv 1) pa_nil)))))))
        pss_nil)
      (pss_cons (ps_set (i := 2) sc_Scanner_target.nd rfl (Or.inl rfl) (pe_meth0 (pv 0) T.cl_Scanner T.m_Scanner_next_name (ok_nname T) (hr.mono (by decide)) T.b_Scanner_next_name .nil pass0))
      (pss_cons (ps_if (PW.pt (pw_or (pt_cmpR op_isN (pv 2) pe_non (nomark _)) (pw_or1 (pt_cmpR op_ne (pe_slice sl_str (pe_fldK (K := K) (pv 0)) (po_some (pe_fldK (K := K) (pv 0))) (po_some (pe_op op_add (pe_fldK (K := K) (pv 0)) pe_int))) pe_str (nomark _)))))
        (pss_one (ps_ret (pe_ifExp (pt_cmpR op_isN (pv 2) pe_non (nomark _)) pe_non (pe_tup (pa_cons pe_str (pa_cons (pv 2) pa_nil))))))
        pss_nil)
      (pss_cons (ps_set (i := 1) sc_Scanner_target.nd rfl (Or.inl rfl) (pe_meth0 (pv 0) T.cl_Scanner T.m_Scanner_built (ok_built T) (hr.mono (by decide)) T.b_Scanner_built .nil pass0))
      (pss_one (ps_ret (pe_ifExp (pt_cmpR op_isN (pv 1) pe_non (nomark _)) pe_non (pe_tup (pa_cons pe_str (pa_cons (pv 2) (pa_cons (pv 1) pa_nil))))))))))), ?_⟩
    refine ⟨_, rfl, a, _, dx, _, _, rfl, S.at_, T.cl_Scanner, T.at_Scanner_line, rfl, _, rfl, a, _, dx, _, _, rfl, S.at_, T.cl_Scanner, T.at_Scanner_spot, rfl, _, rfl,
      _, rfl, a, _, dx, _, _, rfl, S.at_, T.cl_Scanner, T.at_Scanner_spot, rfl, _, _, rfl, rfl, _, rfl, z, rfl, Nat.le_of_lt (small1000 S.len), rfl, _, rfl, ?_⟩
    rw [take_eq1 S.le l1b]
    cases e0 : pTake "[" (tl z) i with
    | true =>
      refine iteT ?_
      refine ⟨_, rfl, a, dx, _, rfl, S.at_, rfl, a, rfl, dx, z, i, S, fun d j e v H1 s1 S1 hv nv => ?_, fun e j H1 s1 S1 => ?_⟩
      · refine ⟨_, rfl, rfl, _, rfl, iteDF (by simp [nv]) ⟨_, rfl, (by show 2 ≤ sizeLine; decide), fun p hp => ?_⟩⟩
        have sp := same_new (o := .tup [.str "built", v]) hp
        exact kS _ j (by unfold pTarget; rw [e0, if_pos rfl]; unfold pMap; rw [e]; rfl) _ _ (s1.trans (SX.same sp)) (S1.same sp) (St1.tup hp (.cons (.str _) (.cons hv .nil))) (fun z => nomatch z)
      · refine ⟨_, rfl, rfl, _, rfl, iteT ?_⟩
        exact kN (by unfold pTarget; rw [e0, if_pos rfl]; unfold pMap; rw [e]; rfl) j H1 s1 S1
    | false =>
      refine iteF ?_
      refine ⟨_, rfl, a, dx, _, rfl, S.at_, rfl, a, rfl, dx, z, i, S, fun x j e H1 s1 S1 => ?_, fun e j H1 s1 S1 => ?_⟩
      · refine ⟨_, rfl, rfl, _, rfl, iteF ?_⟩
        refine ⟨_, rfl, a, _, dx, _, _, rfl, S1.at_, T.cl_Scanner, T.at_Scanner_line, rfl, _, rfl, a, _, dx, _, _, rfl, S1.at_, T.cl_Scanner, T.at_Scanner_spot, rfl, _, rfl,
          _, rfl, a, _, dx, _, _, rfl, S1.at_, T.cl_Scanner, T.at_Scanner_spot, rfl, _, _, rfl, rfl, _, rfl, z, rfl, Nat.le_of_lt (small1000 S.len), rfl, _, rfl, ?_⟩
        rw [take_eq1 S1.le l1b]
        cases e1 : pTake "[" (tl z) j with
        | true =>
          refine iteF ?_
          refine ⟨_, rfl, a, dx, _, rfl, S1.at_, rfl, a, rfl, dx, z, j, S1, fun d j2 e2 v H2 s2 S2 hv nv => ?_, fun e2 j2 H2 s2 S2 => ?_⟩
          · refine ⟨_, rfl, rfl, _, rfl, iteDF (by simp [nv]) ⟨_, rfl, _, rfl, (by show 3 ≤ sizeLine; decide), fun p hp => ?_⟩⟩
            have sp := same_new (o := .tup [.str "table", .str x, v]) hp
            exact kS _ j2 (by unfold pTarget; rw [e0, if_neg (by decide), e]; simp [e1, pMap, e2]) _ _ ((s1.trans s2).trans (SX.same sp)) (S2.same sp) (St1.tup hp (.cons (.str _) (.cons (.str _) (.cons hv .nil)))) (fun z => nomatch z)
          · refine ⟨_, rfl, rfl, _, rfl, iteT ?_⟩
            exact kN (by unfold pTarget; rw [e0, if_neg (by decide), e]; simp [e1, pMap, e2]) j2 H2 (s1.trans s2) S2
        | false =>
          refine iteT ?_
          refine ⟨_, rfl, rfl, _, rfl, iteF ⟨_, rfl, (by show 2 ≤ sizeLine; decide), fun p hp => ?_⟩⟩
          have sp := same_new (o := .tup [.str "name", .str x]) hp
          exact kS _ j (by unfold pTarget; rw [e0, if_neg (by decide), e]; simp [e1]) _ _ (s1.trans (SX.same sp)) (S1.same sp) (St1.tup hp (.cons (.str _) (.cons (.str _) .nil))) (fun z => nomatch z)
      · refine ⟨_, rfl, rfl, _, rfl, iteT ?_⟩
        refine iteT ⟨_, rfl, rfl, _, rfl, iteT ?_⟩
        exact kN (by unfold pTarget; rw [e0, if_neg (by decide), e]; rfl) j H1 s1 S1
end
end Sn

/-! ## The scanner of a line: lists -/
namespace Sn
open PySem PySem.Spec PyProof.Rows L2 TL
/-- the items of a list: names or expressions -/
def pIt (b : Bool) : Ps PyData := if b = true then pMap PyData.str pName else pExpr
theorem pIt_gt {b : Bool} {L : List Nat} {i j : Nat} {x : PyData} (h : pIt b L i = some (x, j)) : i < j := by
  unfold pIt at h
  cases b with
  | true =>
    obtain ⟨y, e, _⟩ := pMap_some h
    exact pName_gt e
  | false => exact pExpr_gt h
/-- behind the items ds, at j -/
def pTail (p : Ps PyData) (e : Str) (f : Nat) (ds : List PyData) (L : List Nat) (j : Nat) : Option (List PyData × Nat) := (pList p e f ds.isEmpty L j).map fun q => (ds ++ q.1, q.2)
theorem pTail_end {p : Ps PyData} {e : Str} {f : Nat} {ds : List PyData} {L : List Nat} {j : Nat} (h : pTake e L j = true) : pTail p e (f + 1) ds L j = some (ds, j + e.length) := by
  unfold pTail
  show Option.map _ (if pTake e L j = true then some ([], j + e.length) else _) = _
  rw [if_pos h]
  simp
theorem pTail_go {p : Ps PyData} {e : Str} {f : Nat} {ds : List PyData} {L : List Nat} {j : Nat} (h : pTake e L j = false) :
    pTail p e (f + 1) ds L j = (if ds.isEmpty = true then p L j else pAft ", " p L j).bind fun r => pTail p e f (ds ++ [r.1]) L r.2 := by
  unfold pTail
  show Option.map _ (if pTake e L j = true then some ([], j + e.length) else (if ds.isEmpty = true then p L j else pAft ", " p L j).bind fun r => (pList p e f false L r.2).map fun q => (r.1 :: q.1, q.2)) = _
  rw [if_neg (by rw [h]; decide)]
  cases (if ds.isEmpty = true then p L j else pAft ", " p L j) with
  | none => rfl
  | some r =>
    have : (ds ++ [r.1]).isEmpty = false := by cases ds <;> rfl
    simp only [Option.bind_some, this, Option.map_map]
    congr 1
    funext q
    simp
section
variable {P : Program} {w : World} {K : PySem.W.Frag} {mg : Str → Option Value} {base : Heap}
/-- a value of an item -/
def spLst (C : Addr) : Sp := fun vs H Q _ => ∃ (a : Addr) (b : Bool) (e : Str), vs = [.ref a, .bl b, .str e] ∧ 0 < e.length ∧ e.length ≤ 100 ∧ Data1 C (pMap PyData.tuple (pListed (pIt b) e)) a H Q
/-- the items so far: at q, the spot j -/
def LsI (C a dx : Addr) (z : Str) (b : Bool) (e : Str) (i : Nat) (H : Hp) (m : Nat) (σ : L2.St) (H1 : Hp) : Prop := ∃ (q : Addr) (xs : List V) (ds : List PyData) (j f : Nat), m = z.length - j + 1 ∧ σ = [some (.ref a), some (.bl b), some (.str e), some (.ref q)] ∧ SX a H H1 ∧ H q = none ∧ q ≠ a ∧ Sc C H1 a dx z j ∧
  H1 q = some (.lst xs) ∧ StA H1 xs ds ∧ ds.length ≤ j ∧ f + ds.length = z.length + 1 ∧ pListed (pIt b) e (tl z) i = pTail (pIt b) e f ds (tl z) j
theorem ok_listed (T : Txt K mg) : FnOk P w K mg base CX0 6 T.f_Scanner_listed T.fd_Scanner_listed ["self", "by_name", "end"] (spLst T.C_Scanner) := by
  have GE : FnOk P w K mg base CX0 5 T.f_Scanner_expr T.fd_Scanner_expr ["self"] (spD1 T.C_Scanner pExpr) := ok_expr T
  have GN : FnOk P w K mg base CX0 3 T.f_Scanner_next_name T.fd_Scanner_next_name ["self"] (spT1 T.C_Scanner pName) := ok_nname T
  have GT : FnOk P w K mg base CX0 1 T.f_Scanner_take T.fd_Scanner_take ["self", "signs"] (spTakeS T.C_Scanner) := ok_takeS T
  refine T.F_Scanner_listed.ok sc_Scanner_listed (fun vs H Q E h => ?_) (fun cdv A outer s H vs Q E hr h => ?_)
  · obtain ⟨a, b, e, rfl, _⟩ := h
    rfl
  · obtain ⟨a, b, e, rfl, he0, he1, dx, z, i, S, kS, kN⟩ := h
    refine ⟨_, (pss_cons (ps_set (i := 3) sc_Scanner_listed.nd rfl (Or.inl rfl) (pe_lst pa_nil))
      (pss_cons (ps_while PassesOwn.never (pt_not (pt_val (pe_meth (pv 0) T.cl_Scanner T.m_Scanner_take (ok_takeS T) (hr.mono (by decide)) T.b_Scanner_take .nil pass0 (pa_cons (pv 2) pa_nil))))
        (C8.pss_cut (ps_if (PW.pt (pw_and (pt_cmpR (op_neNilH (K := K) hr.units) (pv 3) (pe_lst pa_nil) (nomark _)) (pw_and1 (pt_not (pt_val (pe_meth (pv 0) T.cl_Scanner T.m_Scanner_take (ok_takeS T) (hr.mono (by decide)) T.b_Scanner_take .nil pass0 (pa_cons pe_str pa_nil)))))))
        (pss_one (ps_ret pe_non))
        pss_nil)
      (pss_cons (ps_expr (pe_bm PySem.F.plainAttrs_list PySem.F.slot_list_append PySem.F.type_list_append mt_append (pv 3) (pa_cons (pe_ifExp (pt_val (pv 1)) (pe_meth0 (pv 0) T.cl_Scanner T.m_Scanner_next_name (ok_nname T) (hr.mono (by decide)) T.b_Scanner_next_name .nil pass0) (pe_meth0 (pv 0) T.cl_Scanner T.m_Scanner_expr (ok_expr T) (hr.mono (by decide)) T.b_Scanner_expr .nil pass0)) pa_nil)))
      (pss_one (ps_if (pt_cmpR op_isN (pe_ix (ix_listK (K := K)) (pv 3) (pe_un un_neg pe_int) (fun _ _ => rfl)) pe_non (nomark _))
        (pss_one (ps_ret pe_non))
        pss_nil)))))
      (pss_one (ps_ret (pe_callTy call_tuple_of (by rfl) T.z_tuple (by decide +kernel) (pa_cons (pv 3) pa_nil)))))), ?_⟩
    have hl : (tl z).length = z.length := (len_tl z).symm
    have l2 : (", " : Str).length = 2 := by decide +kernel
    have nlen := S.len
    refine ⟨(by show 0 ≤ sizeLine; decide), fun q0 hq0 => ?_⟩
    have sq0 := same_new (o := .lst []) hq0
    refine ⟨LsI T.C_Scanner a dx z b e i H, ⟨_, q0, [], [], i, z.length + 1, rfl, rfl, SX.same sq0, hq0, (ne_of_none S.at_ hq0).symm, S.same sq0, upd_same, .nil, Nat.zero_le _, rfl, ?_⟩, ?_⟩
    · unfold pTail pListed
      rw [hl]
      show _ = Option.map (fun q => (([] : List PyData) ++ q.1, q.2)) (pList (pIt b) e (z.length + 1) true (tl z) i)
      cases pList (pIt b) e (z.length + 1) true (tl z) i <;> rfl
    rintro m σ H1 ⟨q, xs, ds, j, f, rfl, rfl, s1, hq0, nqa, S1, hq, hxs, hdj, hf, ep⟩
    have lx : xs.length = ds.length := hxs.at.len
    have jle := S1.le
    obtain ⟨f, rfl⟩ : ∃ g, f = g + 1 := ⟨f - 1, by omega⟩
    refine ⟨_, rfl, a, dx, _, rfl, S1.at_, rfl, _, rfl, a, dx, z, e, j, rfl, S1, he1, fun e1 H2 s2 S2 => ⟨_, rfl, iteF ?_⟩, fun e1 => ⟨_, rfl, iteT ?_⟩⟩
    · -- the end
      have hq2 := s2 _ _ nqa hq
      refine ⟨_, rfl, q, _, rfl, .inl ⟨.inl (.inl hq2), fun t ht => ?_⟩⟩
      have st := same_new (o := .tup xs) ht
      refine kS (.tuple ds) _ ?_ _ _ ((s1.trans s2).trans (SX.same st)) (S2.same st) (St1.tup ht (hxs.mv (S1.mvT s2))) (fun z => nomatch z)
      unfold pMap
      rw [ep, pTail_end e1]; rfl
    · refine ⟨fun σ' H' => ∃ m', m' < z.length - j + 1 ∧ LsI T.C_Scanner a dx z b e i H m' σ' H', fun σ' H' h => h, ?_⟩
      refine ⟨fun σ' H2 => ∃ j2, j ≤ j2 ∧ σ' = [some (.ref a), some (.bl b), some (.str e), some (.ref q)] ∧ SX a H1 H2 ∧ Sc T.C_Scanner H2 a dx z j2 ∧ H2 q = some (.lst xs) ∧ (if ds.isEmpty = true then pIt b (tl z) j else pAft ", " (pIt b) (tl z) j) = pIt b (tl z) j2, ?_, ?_⟩
      · refine ⟨_, rfl, (by show 0 ≤ sizeLine; decide), fun z0 hz0 => ?_⟩
        have sz := same_new (o := .lst []) hz0
        refine ⟨q, z0, xs, rfl, rfl, .inl (.inl (sz _ _ hq)), .inl (.inl upd_same), _, rfl, ?_⟩
        cases xs with
        | nil =>
          have ed : ds = [] := List.length_eq_zero_iff.mp lx.symm
          subst ed
          exact iteF (iteF ⟨j, Nat.le_refl _, rfl, SX.same sz, S1.same sz, sz _ _ hq, rfl⟩)
        | cons x xr =>
          have ed : ds.isEmpty = false := by
            cases ds with
            | nil => cases lx
            | cons _ _ => rfl
          refine iteT ?_
          have S1z := S1.same sz
          refine ⟨_, rfl, a, dx, _, rfl, S1z.at_, rfl, a, dx, z, ", ", j, rfl, S1z, by omega, fun e2 H2 s2 S2 => ⟨_, rfl, iteF ?_⟩, fun e2 => ⟨_, rfl, iteT ?_⟩⟩
          · refine ⟨j + (", " : Str).length, by omega, rfl, (SX.same sz).trans s2, S2, s2 _ _ nqa (sz _ _ hq), ?_⟩
            rw [ed, if_neg (by decide)]
            unfold pAft
            rw [if_pos e2]
          · refine kN ?_ j _ (s1.trans (SX.same sz)) S1z
            unfold pMap
            rw [ep, pTail_go e1, ed, if_neg (by decide)]
            unfold pAft
            rw [if_neg (by rw [e2]; decide)]; rfl
      · rintro σ' H2 ⟨j2, hj2, rfl, s2, S2, hq2, eit⟩
        have mv2 := S1.mvT s2
        have le2 := S2.le
        refine ⟨_, rfl, .inl ⟨rfl, _, .inl (.inl hq2)⟩, _, rfl, _, rfl, ?_⟩
        -- a good item, a bad one
        have good : ∀ (x : PyData) (j3 : Nat) (v : V) (H3 : Hp), pIt b (tl z) j2 = some (x, j3) → SX a H2 H3 → Sc T.C_Scanner H3 a dx z j3 → St1 H3 v x → v ≠ .non → H3 q = some (.lst xs) ∧ xs.length < sizeLine ∧
            ((upd H3 q (.lst (xs ++ [v]))) q = some (.lst (xs ++ [v]))) ∧ ∃ m', m' < z.length - j + 1 ∧ LsI T.C_Scanner a dx z b e i H m' [some (.ref a), some (.bl b), some (.str e), some (.ref q)] (upd H3 q (.lst (xs ++ [v]))) := by
          intro x j3 v H3 ex s3 S3 hv nv
          have hq3 := s3 _ _ nqa hq2
          have gt := pIt_gt ex
          have le3 := S3.le
          refine ⟨hq3, small1000 (by omega), upd_same, z.length - j3 + 1, by omega, q, xs ++ [v], ds ++ [x], j3, f, rfl, rfl, fun bb o nb eb => ?_, hq0, nqa, ⟨by rw [upd_ne nqa.symm]; exact S3.at_, S3.le, S3.len⟩, upd_same, ?_, by rw [List.length_append]; show ds.length + 1 ≤ j3; omega, by rw [List.length_append]; show f + (ds.length + 1) = _; omega, ?_⟩
          · rw [upd_ne (ne_of_none eb hq0)]
            exact s3 _ _ nb (s2 _ _ nb (s1 _ _ nb eb))
          · exact ((hxs.mv (mv2.trans (S2.mvT s3))).app (.cons hv .nil)).mv (MvT.put hq3)
          · rw [ep, pTail_go e1, eit, ex]; rfl
        have bad : ∀ (j3 : Nat) (H3 : Hp), pIt b (tl z) j2 = none → SX a H2 H3 → Sc T.C_Scanner H3 a dx z j3 → H3 q = some (.lst xs) ∧ xs.length < sizeLine ∧ Q .non (upd H3 q (.lst (xs ++ [.non]))) := by
          intro j3 H3 ex s3 S3
          have hq3 := s3 _ _ nqa hq2
          refine ⟨hq3, small1000 (by omega), kN ?_ j3 _ (fun bb o nb eb => ?_) ⟨by rw [upd_ne nqa.symm]; exact S3.at_, S3.le, S3.len⟩⟩
          · unfold pMap
            rw [ep, pTail_go e1, eit, ex]; rfl
          · rw [upd_ne (ne_of_none eb hq0)]
            exact s3 _ _ nb (s2 _ _ nb (s1 _ _ nb eb))
        cases b with
        | true =>
          refine iteT ⟨_, rfl, a, dx, _, rfl, S2.at_, rfl, a, rfl, dx, z, j2, S2, fun x j3 ex H3 s3 S3 => ?_, fun ex j3 H3 s3 S3 => ?_⟩
          · obtain ⟨g1, g2, g3, g4⟩ := good (.str x) j3 (.str x) H3 (by show pMap _ _ _ _ = _; unfold pMap; rw [ex]; rfl) s3 S3 (.str x) (fun z => nomatch z)
            refine ⟨q, _, _, rfl, rfl, g1, g2, ?_⟩
            exact ⟨_, rfl, _, rfl, q, _, _, _, rfl, rfl, .inl (.inl g3), atI_last _ _, rfl, _, rfl, iteF g4⟩
          · obtain ⟨g1, g2, g3⟩ := bad j3 H3 (by show pMap _ _ _ _ = _; unfold pMap; rw [ex]; rfl) s3 S3
            refine ⟨q, _, _, rfl, rfl, g1, g2, ?_⟩
            exact ⟨_, rfl, _, rfl, q, _, _, _, rfl, rfl, .inl (.inl upd_same), atI_last _ _, rfl, _, rfl, iteT g3⟩
        | false =>
          refine iteF ⟨_, rfl, a, dx, _, rfl, S2.at_, rfl, a, rfl, dx, z, j2, S2, fun x j3 ex v H3 s3 S3 hv nv => ?_, fun ex j3 H3 s3 S3 => ?_⟩
          · obtain ⟨g1, g2, g3, g4⟩ := good x j3 v H3 ex s3 S3 hv nv
            refine ⟨q, _, _, rfl, rfl, g1, g2, ?_⟩
            exact ⟨_, rfl, _, rfl, q, _, _, _, rfl, rfl, .inl (.inl g3), atI_last _ _, rfl, _, rfl, iteDF (by simp [nv]) g4⟩
          · obtain ⟨g1, g2, g3⟩ := bad j3 H3 ex s3 S3
            refine ⟨q, _, _, rfl, rfl, g1, g2, ?_⟩
            exact ⟨_, rfl, _, rfl, q, _, _, _, rfl, rfl, .inl (.inl upd_same), atI_last _ _, rfl, _, rfl, iteT g3⟩
end
end Sn

/-! ## The scanner of a line: statements -/
namespace Sn
open PySem PySem.Spec PyProof.Rows L2 TL
theorem dec_non {v : V} (h : v ≠ .non) : decide (v = .non) = false := by simp [h]
section
variable {P : Program} {w : World} {K : PySem.W.Frag} {mg : Str → Option Value} {base : Heap}
def spCallS (C : Addr) : Sp := fun vs H Q _ => ∃ (a : Addr) (v : V) (d : PyData), vs = [.ref a, v] ∧ (∀ H', Dh H' v d) ∧ Data1 C (pCall d) a H Q
theorem ok_callS (T : Txt K mg) : FnOk P w K mg base CX0 8 T.f_Scanner_call T.fd_Scanner_call ["self", "into"] (spCallS T.C_Scanner) := by
  have GG : FnOk P w K mg base CX0 7 T.f_Scanner_target T.fd_Scanner_target ["self"] (spD1 T.C_Scanner pTarget) := ok_target T
  have GL : FnOk P w K mg base CX0 6 T.f_Scanner_listed T.fd_Scanner_listed ["self", "by_name", "end"] (spLst T.C_Scanner) := ok_listed T
  have GT : FnOk P w K mg base CX0 1 T.f_Scanner_take T.fd_Scanner_take ["self", "signs"] (spTakeS T.C_Scanner) := ok_takeS T
  obtain ⟨t1, g_MOST_GIVEN⟩ := T.c_MOST_GIVEN
  refine T.F_Scanner_call.ok sc_Scanner_call (fun vs H Q E h => ?_) (fun cdv A outer s H vs Q E hr h => ?_)
  · obtain ⟨a, v, d, rfl, _⟩ := h
    rfl
  · obtain ⟨a, v, d, rfl, hd, dx, z, i, S, kS, kN⟩ := h
    refine ⟨_, (pss_cons (ps_set (i := 2) sc_Scanner_call.nd rfl (Or.inl rfl) (pe_meth0 (pv 0) T.cl_Scanner T.m_Scanner_target (ok_target T) (hr.mono (by decide)) T.b_Scanner_target .nil pass0))
      (pss_cons (ps_set (i := 3) sc_Scanner_call.nd rfl (Or.inl rfl) (pe_ifExp (PW.pt (pw_and (pt_cmpR op_notN (pv 2) pe_non (nomark _)) (pw_and1 (pt_val (pe_meth (pv 0) T.cl_Scanner T.m_Scanner_take (ok_takeS T) (hr.mono (by decide)) T.b_Scanner_take .nil pass0 (pa_cons pe_str pa_nil)))))) (pe_meth (pv 0) T.cl_Scanner T.m_Scanner_listed (ok_listed T) (hr.mono (by decide)) T.b_Scanner_listed .nil pass0 (pa_cons pe_bl (pa_cons pe_str pa_nil))) pe_non))
      (pss_one (ps_ret (pe_ifExp (PW.pt (pw_or (pt_cmpR op_isN (pv 3) pe_non (nomark _)) (pw_or1 (pt_cmpR op_gt (pe_callB (call_lenN (K := K)) (by rfl) T.z_len (by decide +kernel) (pa_cons (pv 3) pa_nil)) (pe_glob (v := .int 3) rfl g_MOST_GIVEN ⟨_, rfl⟩) (nomark _))))) pe_non (pe_tup (pa_cons pe_str (pa_cons (pv 1) (pa_cons (pv 2) (pa_cons (pv 3) pa_nil)))))))))), ?_⟩
    refine ⟨_, rfl, a, dx, _, rfl, S.at_, rfl, a, rfl, dx, z, i, S, fun x j e1 u H1 s1 S1 hu nu => ?_, fun e1 j H1 s1 S1 => ?_⟩
    · refine ⟨_, rfl, rfl, _, rfl, iteDT (by simp [nu]) ?_⟩
      refine ⟨_, rfl, a, dx, _, rfl, S1.at_, rfl, a, dx, z, "(", j, rfl, S1, by decide +kernel, fun e2 H2 s2 S2 => ⟨_, rfl, iteT ?_⟩, fun e2 => ⟨_, rfl, iteF ?_⟩⟩
      · refine ⟨_, rfl, a, dx, _, rfl, S2.at_, rfl, a, false, ")", rfl, by decide +kernel, by decide +kernel, dx, z, _, S2, fun y j2 e3 t H3 s3 S3 ht nt => ?_, fun e3 j2 H3 s3 S3 => ?_⟩
        · obtain ⟨ds, e4, rfl⟩ := pMap_some e3
          have e4' : pListed pExpr ")" (tl z) (j + ("(" : Str).length) = some (ds, j2) := e4
          obtain ⟨b, xs, rfl, hb, hxs⟩ := ht.tupAt
          have lx : xs.length = ds.length := hxs.at.len
          have ec : pCall d (tl z) i = if ds.length ≤ 3 then some (.tuple [.str "call", d, x, .tuple ds], j2) else none := by
            unfold pCall
            rw [e1]
            simp [pAft, e2, e4']
          refine ⟨_, rfl, rfl, _, rfl, iteF ?_⟩
          refine ⟨_, rfl, _, xs.length, rfl, .inr ⟨_, .inl (.inl hb), rfl⟩, _, _, rfl, rfl, _, rfl, ?_⟩
          have S03 := (s1.trans s2).trans s3
          by_cases h3 : ds.length ≤ 3
          · refine iteDF (decide_eq_false (by omega)) ?_
            refine ⟨_, rfl, _, rfl, _, rfl, (by show 4 ≤ sizeLine; decide), fun p hp => ?_⟩
            have sp := same_new (o := .tup [.str "call", v, u, .ref b]) hp
            refine kS _ j2 (by rw [ec, if_pos h3]) _ _ (S03.trans (SX.same sp)) (S3.same sp) (St1.tup hp (.cons (.str _) (.cons (fun H' _ => hd H') (.cons (hu.mv ((S1.mvT s2).trans (S2.mvT s3))) (.cons ht .nil))))) (fun z => nomatch z)
          · refine iteDT (decide_eq_true (by omega)) ?_
            exact kN (by rw [ec, if_neg h3]) j2 H3 S03 S3
        · have e4' : pListed pExpr ")" (tl z) (j + ("(" : Str).length) = none := by
            unfold pMap at e3
            exact Option.map_eq_none_iff.mp e3
          refine ⟨_, rfl, rfl, _, rfl, iteT (iteT ?_)⟩
          refine kN ?_ j2 H3 ((s1.trans s2).trans s3) S3
          unfold pCall
          rw [e1]
          simp [pAft, e2, e4']
      · refine ⟨_, rfl, rfl, _, rfl, iteT (iteT ?_)⟩
        refine kN ?_ j H1 s1 S1
        unfold pCall
        rw [e1]
        simp [pAft, e2]
    · refine ⟨_, rfl, rfl, _, rfl, iteF (iteF ?_)⟩
      refine ⟨_, rfl, rfl, _, rfl, iteT (iteT ?_)⟩
      refine kN ?_ j H1 s1 S1
      unfold pCall
      rw [e1]; rfl
theorem ok_let (T : Txt K mg) : FnOk P w K mg base CX0 9 T.f_Scanner_let T.fd_Scanner_let ["self"] (spD1 T.C_Scanner pLet) := by
  have GC : FnOk P w K mg base CX0 8 T.f_Scanner_call T.fd_Scanner_call ["self", "into"] (spCallS T.C_Scanner) := ok_callS T
  have GE : FnOk P w K mg base CX0 5 T.f_Scanner_expr T.fd_Scanner_expr ["self"] (spD1 T.C_Scanner pExpr) := ok_expr T
  have GN : FnOk P w K mg base CX0 3 T.f_Scanner_next_name T.fd_Scanner_next_name ["self"] (spT1 T.C_Scanner pName) := ok_nname T
  have GT : FnOk P w K mg base CX0 1 T.f_Scanner_take T.fd_Scanner_take ["self", "signs"] (spTakeS T.C_Scanner) := ok_takeS T
  have GR : FnOk P w K mg base CX0 1 T.f_Scanner_rest T.fd_Scanner_rest ["self"] (spRest T.C_Scanner) := ok_rest T
  refine T.F_Scanner_let.ok sc_Scanner_let (fun vs H Q E h => ?_) (fun cdv A outer s H vs Q E hr h => ?_)
  · obtain ⟨a, rfl, _⟩ := h
    rfl
  · obtain ⟨a, rfl, dx, z, i, S, kS, kN⟩ := h
    refine ⟨_, (pss_cons (ps_set (i := 1) sc_Scanner_let.nd rfl (Or.inl rfl) (pe_meth0 (pv 0) T.cl_Scanner T.m_Scanner_next_name (ok_nname T) (hr.mono (by decide)) T.b_Scanner_next_name .nil pass0))
      (pss_cons (ps_if (PW.pt (pw_or (pt_cmpR op_isN (pv 1) pe_non (nomark _)) (pw_or1 (pt_not (pt_val (pe_meth (pv 0) T.cl_Scanner T.m_Scanner_take (ok_takeS T) (hr.mono (by decide)) T.b_Scanner_take .nil pass0 (pa_cons pe_str pa_nil)))))))
        (pss_one (ps_ret pe_non))
        pss_nil)
      (pss_cons (ps_if (pt_cmpR op_eq (pe_meth0 (pv 0) T.cl_Scanner T.m_Scanner_rest (ok_rest T) (hr.mono (by decide)) T.b_Scanner_rest .nil pass0) pe_str (nomark _))
        (pss_cons (ps_expr (pe_meth (pv 0) T.cl_Scanner T.m_Scanner_take (ok_takeS T) (hr.mono (by decide)) T.b_Scanner_take .nil pass0 (pa_cons pe_str pa_nil)))
      (pss_one (ps_ret (pe_tup (pa_cons pe_str (pa_cons (pv 1) pa_nil))))))
        pss_nil)
      (pss_cons (ps_if (pt_val (pe_meth (pv 0) T.cl_Scanner T.m_Scanner_take (ok_takeS T) (hr.mono (by decide)) T.b_Scanner_take .nil pass0 (pa_cons pe_str pa_nil)))
        (pss_one (ps_ret (pe_meth (pv 0) T.cl_Scanner T.m_Scanner_call (ok_callS T) (hr.mono (by decide)) T.b_Scanner_call .nil pass0 (pa_cons (pv 1) pa_nil))))
        pss_nil)
      (pss_cons (ps_set (i := 2) sc_Scanner_let.nd rfl (Or.inl rfl) (pe_meth0 (pv 0) T.cl_Scanner T.m_Scanner_expr (ok_expr T) (hr.mono (by decide)) T.b_Scanner_expr .nil pass0))
      (pss_one (ps_ret (pe_ifExp (pt_cmpR op_isN (pv 2) pe_non (nomark _)) pe_non (pe_tup (pa_cons pe_str (pa_cons (pv 1) (pa_cons (pv 2) pa_nil)))))))))))), ?_⟩
    have l3 : ("ask" : Str).length = 3 := by decide +kernel
    have l5 : ("call " : Str).length = 5 := by decide +kernel
    refine ⟨_, rfl, a, dx, _, rfl, S.at_, rfl, a, rfl, dx, z, i, S, fun x j e1 H1 s1 S1 => ?_, fun e1 j H1 s1 S1 => ?_⟩
    · refine ⟨_, rfl, rfl, _, rfl, iteF ?_⟩
      refine ⟨_, rfl, a, dx, _, rfl, S1.at_, rfl, a, dx, z, " = ", j, rfl, S1, by decide +kernel, fun e2 H2 s2 S2 => ⟨_, rfl, iteF ?_⟩, fun e2 => ⟨_, rfl, iteT ?_⟩⟩
      · have S02 := s1.trans s2
        generalize hj : j + (" = " : Str).length = j1 at S2
        have eb : pBef pName " = " (tl z) i = some (x, j1) := by
          unfold pBef
          rw [e1]
          simp [e2, ← hj]
        refine ⟨_, rfl, a, dx, _, rfl, S2.at_, rfl, a, dx, z, j1, rfl, S2, rfl, _, rfl, ?_⟩
        by_cases er : (tl z).drop j1 = tl ("ask" : Str)
        · refine iteDT (decide_eq_true (by congr 1; exact str_ext er)) ?_
          have et : pTake "ask" (tl z) j1 = true := by
            unfold pTake
            rw [er, len_tl, List.take_length]
            exact decide_eq_true rfl
          refine ⟨_, rfl, a, dx, _, rfl, S2.at_, rfl, a, dx, z, "ask", j1, rfl, S2, by omega, fun _ H3 s3 S3 => ?_, fun e3 => by rw [et] at e3; cases e3⟩
          refine ⟨_, rfl, (by show 2 ≤ sizeLine; decide), fun p hp => ?_⟩
          have sp := same_new (o := .tup [.str "ask", .str x]) hp
          rw [l3] at S3
          exact kS _ (j1 + 3) (by unfold pLet; rw [eb]; simp only [Option.bind_some]; rw [if_pos er]) _ _ ((S02.trans s3).trans (SX.same sp)) (S3.same sp) (St1.tup hp (.cons (.str _) (.cons (.str _) .nil))) (fun z => nomatch z)
        · refine iteDF (decide_eq_false (fun q => er (by injection q with q; exact congrArg tl q))) ?_
          have el : pLet (tl z) i = if pTake "call " (tl z) j1 = true then pCall (.str x) (tl z) (j1 + 5) else pMap (fun e => .tuple [.str "let", .str x, e]) pExpr (tl z) j1 := by
            unfold pLet
            rw [eb]
            simp only [Option.bind_some]
            rw [if_neg er]
          refine ⟨_, rfl, a, dx, _, rfl, S2.at_, rfl, a, dx, z, "call ", j1, rfl, S2, by omega, fun e3 H3 s3 S3 => ⟨_, rfl, iteT ?_⟩, fun e3 => ⟨_, rfl, iteF ?_⟩⟩
          · rw [e3, if_pos rfl] at el
            rw [l5] at S3
            refine ⟨_, rfl, a, dx, _, rfl, S3.at_, rfl, _, rfl, a, .str x, .str x, rfl, fun _ => .str x, dx, z, j1 + 5, S3, fun y j2 e4 v H4 s4 S4 hv nv => ?_, fun e4 j2 H4 s4 S4 => ?_⟩
            · exact kS y j2 (by rw [el, e4]) v H4 ((S02.trans s3).trans s4) S4 hv nv
            · exact kN (by rw [el, e4]) j2 H4 ((S02.trans s3).trans s4) S4
          · rw [e3, if_neg (by decide)] at el
            refine ⟨_, rfl, a, dx, _, rfl, S2.at_, rfl, a, rfl, dx, z, j1, S2, fun y j2 e4 v H4 s4 S4 hv nv => ?_, fun e4 j2 H4 s4 S4 => ?_⟩
            · refine ⟨_, rfl, rfl, _, rfl, iteDF (dec_non nv) ?_⟩
              refine ⟨_, rfl, _, rfl, (by show 3 ≤ sizeLine; decide), fun p hp => ?_⟩
              have sp := same_new (o := .tup [.str "let", .str x, v]) hp
              exact kS _ j2 (by rw [el]; unfold pMap; rw [e4]; rfl) _ _ ((S02.trans s4).trans (SX.same sp)) (S4.same sp) (St1.tup hp (.cons (.str _) (.cons (.str _) (.cons hv .nil)))) (fun z => nomatch z)
            · refine ⟨_, rfl, rfl, _, rfl, iteT ?_⟩
              exact kN (by rw [el]; unfold pMap; rw [e4]; rfl) j2 H4 (S02.trans s4) S4
      · refine kN ?_ j H1 s1 S1
        unfold pLet pBef
        rw [e1]
        simp [e2]
    · refine ⟨_, rfl, rfl, _, rfl, iteT (iteT ?_)⟩
      refine kN ?_ j H1 s1 S1
      unfold pLet pBef
      rw [e1]; rfl
theorem ok_choice (T : Txt K mg) : FnOk P w K mg base CX0 7 T.f_Scanner_choice T.fd_Scanner_choice ["self"] (spD1 T.C_Scanner pChoice) := by
  have GB : FnOk P w K mg base CX0 6 T.f_Scanner_built T.fd_Scanner_built ["self"] (spD1 T.C_Scanner pBuilt) := ok_built T
  have GE : FnOk P w K mg base CX0 5 T.f_Scanner_expr T.fd_Scanner_expr ["self"] (spD1 T.C_Scanner pExpr) := ok_expr T
  have GQ : FnOk P w K mg base CX0 3 T.f_Scanner_quoted T.fd_Scanner_quoted ["self", "ahead", "behind"] (spQuo T.C_Scanner) := ok_quoted T
  have GT : FnOk P w K mg base CX0 1 T.f_Scanner_take T.fd_Scanner_take ["self", "signs"] (spTakeS T.C_Scanner) := ok_takeS T
  refine T.F_Scanner_choice.ok sc_Scanner_choice (fun vs H Q E h => ?_) (fun cdv A outer s H vs Q E hr h => ?_)
  · obtain ⟨a, rfl, _⟩ := h
    rfl
  · obtain ⟨a, rfl, dx, z, i, S, kS, kN⟩ := h
    refine ⟨_, (pss_cons (ps_if (pt_val (pe_meth (pv 0) T.cl_Scanner T.m_Scanner_take (ok_takeS T) (hr.mono (by decide)) T.b_Scanner_take .nil pass0 (pa_cons pe_str pa_nil)))
        (pss_cons (ps_set (i := 1) sc_Scanner_choice.nd rfl (Or.inl rfl) (pe_meth0 (pv 0) T.cl_Scanner T.m_Scanner_built (ok_built T) (hr.mono (by decide)) T.b_Scanner_built .nil pass0))
      (pss_one (ps_ret (pe_ifExp (PW.pt (pw_and (pt_cmpR op_notN (pv 1) pe_non (nomark _)) (pw_and1 (pt_val (pe_meth (pv 0) T.cl_Scanner T.m_Scanner_take (ok_takeS T) (hr.mono (by decide)) T.b_Scanner_take .nil pass0 (pa_cons pe_str pa_nil)))))) (pe_tup (pa_cons pe_str (pa_cons (pv 1) pa_nil))) pe_non))))
        pss_nil)
      (pss_cons (ps_set (i := 1) sc_Scanner_choice.nd rfl (Or.inl rfl) (pe_meth0 (pv 0) T.cl_Scanner T.m_Scanner_expr (ok_expr T) (hr.mono (by decide)) T.b_Scanner_expr .nil pass0))
      (pss_cons (ps_set (i := 2) sc_Scanner_choice.nd rfl (Or.inl rfl) (pe_ifExp (pt_cmpR op_isN (pv 1) pe_non (nomark _)) pe_non (pe_meth (pv 0) T.cl_Scanner T.m_Scanner_quoted (ok_quoted T) (hr.mono (by decide)) T.b_Scanner_quoted .nil pass0 (pa_cons pe_str (pa_cons pe_str pa_nil)))))
      (pss_one (ps_ret (pe_ifExp (pt_cmpR op_isN (pv 2) pe_non (nomark _)) pe_non (pe_tup (pa_cons pe_str (pa_cons (pv 1) (pa_cons (pv 2) pa_nil)))))))))), ?_⟩
    have l6 : ("there " : Str).length = 6 := by decide +kernel
    refine ⟨_, rfl, a, dx, _, rfl, S.at_, rfl, a, dx, z, "there ", i, rfl, S, by omega, fun e1 H1 s1 S1 => ⟨_, rfl, iteT ?_⟩, fun e1 => ⟨_, rfl, iteF ?_⟩⟩
    · rw [l6] at S1
      have ec : pChoice (tl z) i = pMap (fun e => .tuple [.str "there", e]) (pBef pBuilt ":") (tl z) (i + 6) := by
        unfold pChoice
        rw [e1, if_pos rfl]
      refine ⟨_, rfl, a, dx, _, rfl, S1.at_, rfl, a, rfl, dx, z, i + 6, S1, fun y j e2 v H2 s2 S2 hv nv => ?_, fun e2 j H2 s2 S2 => ?_⟩
      · refine ⟨_, rfl, rfl, _, rfl, iteDT (by simp [nv]) ?_⟩
        refine ⟨_, rfl, a, dx, _, rfl, S2.at_, rfl, a, dx, z, ":", j, rfl, S2, by decide +kernel, fun e3 H3 s3 S3 => ⟨_, rfl, iteT ?_⟩, fun e3 => ⟨_, rfl, iteF ?_⟩⟩
        · refine ⟨_, rfl, (by show 2 ≤ sizeLine; decide), fun p hp => ?_⟩
          have sp := same_new (o := .tup [.str "there", v]) hp
          exact kS _ _ (by rw [ec]; unfold pMap pBef; rw [e2]; simp [e3]) _ _ (((s1.trans s2).trans s3).trans (SX.same sp)) (S3.same sp) (St1.tup hp (.cons (.str _) (.cons (hv.mv (S2.mvT s3)) .nil))) (fun z => nomatch z)
        · exact kN (by rw [ec]; unfold pMap pBef; rw [e2]; simp [e3]) j H2 (s1.trans s2) S2
      · refine ⟨_, rfl, rfl, _, rfl, iteF (iteF ?_)⟩
        exact kN (by rw [ec]; unfold pMap pBef; rw [e2]; rfl) j H2 (s1.trans s2) S2
    · have ec : pChoice (tl z) i = (pExpr (tl z) i).bind fun r => pMap (fun w => .tuple [.str "if", r.1, .str w]) (pQuoted " == \"" "\":") (tl z) r.2 := by
        unfold pChoice
        rw [e1, if_neg (by decide)]
      refine ⟨_, rfl, a, dx, _, rfl, S.at_, rfl, a, rfl, dx, z, i, S, fun y j e2 v H2 s2 S2 hv nv => ?_, fun e2 j H2 s2 S2 => ?_⟩
      · refine ⟨_, rfl, rfl, _, rfl, iteDF (dec_non nv) ?_⟩
        refine ⟨_, rfl, a, dx, _, rfl, S2.at_, rfl, a, " == \"", "\":", rfl, by decide +kernel, by decide +kernel, dx, z, j, S2, fun x j2 e3 H3 s3 S3 => ?_, fun e3 j2 H3 s3 S3 => ?_⟩
        · refine ⟨_, rfl, rfl, _, rfl, iteF ?_⟩
          refine ⟨_, rfl, _, rfl, (by show 3 ≤ sizeLine; decide), fun p hp => ?_⟩
          have sp := same_new (o := .tup [.str "if", v, .str x]) hp
          exact kS _ j2 (by rw [ec, e2]; unfold pMap; simp only [Option.bind_some]; rw [e3]; rfl) _ _ ((s2.trans s3).trans (SX.same sp)) (S3.same sp) (St1.tup hp (.cons (.str _) (.cons (hv.mv (S2.mvT s3)) (.cons (.str _) .nil)))) (fun z => nomatch z)
        · refine ⟨_, rfl, rfl, _, rfl, iteT ?_⟩
          exact kN (by rw [ec, e2]; unfold pMap; simp only [Option.bind_some]; rw [e3]; rfl) j2 H3 (s2.trans s3) S3
      · refine ⟨_, rfl, rfl, _, rfl, iteT ?_⟩
        refine ⟨_, rfl, rfl, _, rfl, iteT ?_⟩
        exact kN (by rw [ec, e2]; rfl) j H2 s2 S2
end
end Sn

/-! ## The scanner of a line: a statement -/
namespace Sn
open PySem PySem.Spec PyProof.Rows L2 TL
section
variable {P : Program} {w : World} {K : PySem.W.Frag} {mg : Str → Option Value} {base : Heap}
theorem ok_stmt (T : Txt K mg) : FnOk P w K mg base CX0 10 T.f_Scanner_statement T.fd_Scanner_statement ["self"] (spD1 T.C_Scanner pStmt) := by
  have GL : FnOk P w K mg base CX0 9 T.f_Scanner_let T.fd_Scanner_let ["self"] (spD1 T.C_Scanner pLet) := ok_let T
  have GC : FnOk P w K mg base CX0 8 T.f_Scanner_call T.fd_Scanner_call ["self", "into"] (spCallS T.C_Scanner) := ok_callS T
  have GH : FnOk P w K mg base CX0 7 T.f_Scanner_choice T.fd_Scanner_choice ["self"] (spD1 T.C_Scanner pChoice) := ok_choice T
  have GE : FnOk P w K mg base CX0 5 T.f_Scanner_expr T.fd_Scanner_expr ["self"] (spD1 T.C_Scanner pExpr) := ok_expr T
  have GN : FnOk P w K mg base CX0 3 T.f_Scanner_next_name T.fd_Scanner_next_name ["self"] (spT1 T.C_Scanner pName) := ok_nname T
  have GQ : FnOk P w K mg base CX0 3 T.f_Scanner_quoted T.fd_Scanner_quoted ["self", "ahead", "behind"] (spQuo T.C_Scanner) := ok_quoted T
  have GT : FnOk P w K mg base CX0 1 T.f_Scanner_take T.fd_Scanner_take ["self", "signs"] (spTakeS T.C_Scanner) := ok_takeS T
  refine T.F_Scanner_statement.ok sc_Scanner_statement (fun vs H Q E h => ?_) (fun cdv A outer s H vs Q E hr h => ?_)
  · obtain ⟨a, rfl, _⟩ := h
    rfl
  · obtain ⟨a, rfl, dx, z, i, S, kS, kN⟩ := h
    refine ⟨_, (pss_cons (ps_if (pt_val (pe_meth (pv 0) T.cl_Scanner T.m_Scanner_take (ok_takeS T) (hr.mono (by decide)) T.b_Scanner_take .nil pass0 (pa_cons pe_str pa_nil)))
        (pss_one (ps_ret (pe_meth0 (pv 0) T.cl_Scanner T.m_Scanner_let (ok_let T) (hr.mono (by decide)) T.b_Scanner_let .nil pass0)))
        pss_nil)
      (pss_cons (ps_if (pt_val (pe_meth (pv 0) T.cl_Scanner T.m_Scanner_take (ok_takeS T) (hr.mono (by decide)) T.b_Scanner_take .nil pass0 (pa_cons pe_str pa_nil)))
        (pss_one (ps_ret (pe_meth (pv 0) T.cl_Scanner T.m_Scanner_call (ok_callS T) (hr.mono (by decide)) T.b_Scanner_call .nil pass0 (pa_cons pe_non pa_nil))))
        pss_nil)
      (pss_cons (ps_if (pt_val (pe_meth (pv 0) T.cl_Scanner T.m_Scanner_take (ok_takeS T) (hr.mono (by decide)) T.b_Scanner_take .nil pass0 (pa_cons pe_str pa_nil)))
        (pss_one (ps_ret (pe_meth0 (pv 0) T.cl_Scanner T.m_Scanner_choice (ok_choice T) (hr.mono (by decide)) T.b_Scanner_choice .nil pass0)))
        pss_nil)
      (pss_cons (ps_if (pt_val (pe_meth (pv 0) T.cl_Scanner T.m_Scanner_take (ok_takeS T) (hr.mono (by decide)) T.b_Scanner_take .nil pass0 (pa_cons pe_str pa_nil)))
        (pss_cons (ps_set (i := 1) sc_Scanner_statement.nd rfl (Or.inl rfl) (pe_meth0 (pv 0) T.cl_Scanner T.m_Scanner_next_name (ok_nname T) (hr.mono (by decide)) T.b_Scanner_next_name .nil pass0))
      (pss_cons (ps_set (i := 2) sc_Scanner_statement.nd rfl (Or.inl rfl) (pe_ifExp (pt_cmpR op_isN (pv 1) pe_non (nomark _)) pe_non (pe_meth (pv 0) T.cl_Scanner T.m_Scanner_quoted (ok_quoted T) (hr.mono (by decide)) T.b_Scanner_quoted .nil pass0 (pa_cons pe_str (pa_cons pe_str pa_nil)))))
      (pss_one (ps_ret (pe_ifExp (pt_cmpR op_isN (pv 2) pe_non (nomark _)) pe_non (pe_tup (pa_cons pe_str (pa_cons (pv 1) (pa_cons (pv 2) pa_nil)))))))))
        pss_nil)
      (pss_cons (ps_if (pt_val (pe_meth (pv 0) T.cl_Scanner T.m_Scanner_take (ok_takeS T) (hr.mono (by decide)) T.b_Scanner_take .nil pass0 (pa_cons pe_str pa_nil)))
        (pss_cons (ps_set (i := 3) sc_Scanner_statement.nd rfl (Or.inl rfl) (pe_meth0 (pv 0) T.cl_Scanner T.m_Scanner_expr (ok_expr T) (hr.mono (by decide)) T.b_Scanner_expr .nil pass0))
      (pss_one (ps_ret (pe_ifExp (pt_cmpR op_isN (pv 3) pe_non (nomark _)) pe_non (pe_tup (pa_cons pe_str (pa_cons (pv 3) pa_nil)))))))
        pss_nil)
      (pss_cons (ps_if (pt_val (pe_meth (pv 0) T.cl_Scanner T.m_Scanner_take (ok_takeS T) (hr.mono (by decide)) T.b_Scanner_take .nil pass0 (pa_cons pe_str pa_nil)))
        (pss_one (ps_ret (pe_tup (pa_cons pe_str pa_nil))))
        pss_nil)
      (pss_one (ps_ret (pe_ifExp (pt_val (pe_meth (pv 0) T.cl_Scanner T.m_Scanner_take (ok_takeS T) (hr.mono (by decide)) T.b_Scanner_take .nil pass0 (pa_cons pe_str pa_nil))) (pe_tup (pa_cons pe_str pa_nil)) pe_non))))))))), ?_⟩
    have n1 : ("let " : Str).length = 4 := by decide +kernel
    have n2 : ("call " : Str).length = 5 := by decide +kernel
    have n3 : ("if " : Str).length = 3 := by decide +kernel
    have n4 : ("each " : Str).length = 5 := by decide +kernel
    have n5 : ("return " : Str).length = 7 := by decide +kernel
    have n6 : ("try:" : Str).length = 4 := by decide +kernel
    have n7 : ("fail" : Str).length = 4 := by decide +kernel
    refine ⟨_, rfl, a, dx, _, rfl, S.at_, rfl, a, dx, z, "let ", i, rfl, S, by omega, fun e1 H1 s1 S1 => ⟨_, rfl, iteT ?_⟩, fun e1 => ⟨_, rfl, iteF ?_⟩⟩
    · rw [n1] at S1
      have ec : pStmt (tl z) i = pLet (tl z) (i + 4) := by unfold pStmt; simp [e1]
      exact ⟨_, rfl, a, dx, _, rfl, S1.at_, rfl, a, rfl, dx, z, _, S1, fun y j e v H2 s2 S2 hv nv => kS y j (by rw [ec, e]) v H2 (s1.trans s2) S2 hv nv, fun e j H2 s2 S2 => kN (by rw [ec, e]) j H2 (s1.trans s2) S2⟩
    refine ⟨_, rfl, a, dx, _, rfl, S.at_, rfl, a, dx, z, "call ", i, rfl, S, by omega, fun e2 H1 s1 S1 => ⟨_, rfl, iteT ?_⟩, fun e2 => ⟨_, rfl, iteF ?_⟩⟩
    · rw [n2] at S1
      have ec : pStmt (tl z) i = pCall .none (tl z) (i + 5) := by unfold pStmt; simp [e1, e2]
      exact ⟨_, rfl, a, dx, _, rfl, S1.at_, rfl, a, .non, .none, rfl, fun _ => .non, dx, z, _, S1, fun y j e v H2 s2 S2 hv nv => kS y j (by rw [ec, e]) v H2 (s1.trans s2) S2 hv nv, fun e j H2 s2 S2 => kN (by rw [ec, e]) j H2 (s1.trans s2) S2⟩
    refine ⟨_, rfl, a, dx, _, rfl, S.at_, rfl, a, dx, z, "if ", i, rfl, S, by omega, fun e3 H1 s1 S1 => ⟨_, rfl, iteT ?_⟩, fun e3 => ⟨_, rfl, iteF ?_⟩⟩
    · rw [n3] at S1
      have ec : pStmt (tl z) i = pChoice (tl z) (i + 3) := by unfold pStmt; simp [e1, e2, e3]
      exact ⟨_, rfl, a, dx, _, rfl, S1.at_, rfl, a, rfl, dx, z, _, S1, fun y j e v H2 s2 S2 hv nv => kS y j (by rw [ec, e]) v H2 (s1.trans s2) S2 hv nv, fun e j H2 s2 S2 => kN (by rw [ec, e]) j H2 (s1.trans s2) S2⟩
    refine ⟨_, rfl, a, dx, _, rfl, S.at_, rfl, a, dx, z, "each ", i, rfl, S, by omega, fun e4 H1 s1 S1 => ⟨_, rfl, iteT ?_⟩, fun e4 => ⟨_, rfl, iteF ?_⟩⟩
    · rw [n4] at S1
      have ec : pStmt (tl z) i = (pName (tl z) (i + 5)).bind fun r => pMap (fun w => .tuple [.str "each", .str r.1, .str w]) (pQuoted " in \"" "\":") (tl z) r.2 := by unfold pStmt; simp [e1, e2, e3, e4]
      refine ⟨_, rfl, a, dx, _, rfl, S1.at_, rfl, a, rfl, dx, z, _, S1, fun x j e5 H2 s2 S2 => ?_, fun e5 j H2 s2 S2 => ?_⟩
      · refine ⟨_, rfl, rfl, _, rfl, iteF ?_⟩
        refine ⟨_, rfl, a, dx, _, rfl, S2.at_, rfl, a, " in \"", "\":", rfl, by decide +kernel, by decide +kernel, dx, z, j, S2, fun y j2 e6 H3 s3 S3 => ?_, fun e6 j2 H3 s3 S3 => ?_⟩
        · refine ⟨_, rfl, rfl, _, rfl, iteF ?_⟩
          refine ⟨_, rfl, _, rfl, (by show 3 ≤ sizeLine; decide), fun p hp => ?_⟩
          have sp := same_new (o := .tup [.str "each", .str x, .str y]) hp
          exact kS _ j2 (by rw [ec, e5]; unfold pMap; simp only [Option.bind_some]; rw [e6]; rfl) _ _ (((s1.trans s2).trans s3).trans (SX.same sp)) (S3.same sp) (St1.tup hp (.cons (.str _) (.cons (.str _) (.cons (.str _) .nil)))) (fun z => nomatch z)
        · refine ⟨_, rfl, rfl, _, rfl, iteT ?_⟩
          exact kN (by rw [ec, e5]; unfold pMap; simp only [Option.bind_some]; rw [e6]; rfl) j2 H3 ((s1.trans s2).trans s3) S3
      · refine ⟨_, rfl, rfl, _, rfl, iteT ?_⟩
        refine ⟨_, rfl, rfl, _, rfl, iteT ?_⟩
        exact kN (by rw [ec, e5]; rfl) j H2 (s1.trans s2) S2
    refine ⟨_, rfl, a, dx, _, rfl, S.at_, rfl, a, dx, z, "return ", i, rfl, S, by omega, fun e5 H1 s1 S1 => ⟨_, rfl, iteT ?_⟩, fun e5 => ⟨_, rfl, iteF ?_⟩⟩
    · rw [n5] at S1
      have ec : pStmt (tl z) i = pMap (fun e => .tuple [.str "return", e]) pExpr (tl z) (i + 7) := by unfold pStmt; simp [e1, e2, e3, e4, e5]
      refine ⟨_, rfl, a, dx, _, rfl, S1.at_, rfl, a, rfl, dx, z, _, S1, fun y j e6 v H2 s2 S2 hv nv => ?_, fun e6 j H2 s2 S2 => ?_⟩
      · refine ⟨_, rfl, rfl, _, rfl, iteDF (dec_non nv) ?_⟩
        refine ⟨_, rfl, (by show 2 ≤ sizeLine; decide), fun p hp => ?_⟩
        have sp := same_new (o := .tup [.str "return", v]) hp
        exact kS _ j (by rw [ec]; unfold pMap; rw [e6]; rfl) _ _ ((s1.trans s2).trans (SX.same sp)) (S2.same sp) (St1.tup hp (.cons (.str _) (.cons hv .nil))) (fun z => nomatch z)
      · refine ⟨_, rfl, rfl, _, rfl, iteT ?_⟩
        exact kN (by rw [ec]; unfold pMap; rw [e6]; rfl) j H2 (s1.trans s2) S2
    refine ⟨_, rfl, a, dx, _, rfl, S.at_, rfl, a, dx, z, "try:", i, rfl, S, by omega, fun e6 H1 s1 S1 => ⟨_, rfl, iteT ?_⟩, fun e6 => ⟨_, rfl, iteF ?_⟩⟩
    · rw [n6] at S1
      refine ⟨(by show 1 ≤ sizeLine; decide), fun p hp => ?_⟩
      have sp := same_new (o := .tup [.str "try"]) hp
      exact kS _ (i + 4) (by unfold pStmt; simp [e1, e2, e3, e4, e5, e6]) _ _ (s1.trans (SX.same sp)) (S1.same sp) (St1.tup hp (.cons (.str _) .nil)) (fun z => nomatch z)
    refine ⟨_, rfl, a, dx, _, rfl, S.at_, rfl, a, dx, z, "fail", i, rfl, S, by omega, fun e7 H1 s1 S1 => ⟨_, rfl, iteT ?_⟩, fun e7 => ⟨_, rfl, iteF ?_⟩⟩
    · rw [n7] at S1
      refine ⟨(by show 1 ≤ sizeLine; decide), fun p hp => ?_⟩
      have sp := same_new (o := .tup [.str "fail"]) hp
      exact kS _ (i + 4) (by unfold pStmt; simp [e1, e2, e3, e4, e5, e6, e7]) _ _ (s1.trans (SX.same sp)) (S1.same sp) (St1.tup hp (.cons (.str _) .nil)) (fun z => nomatch z)
    · exact kN (by unfold pStmt; simp [e1, e2, e3, e4, e5, e6, e7]) i H SX.refl S
end
end Sn

/-! ## Sorted texts without repetition -/
namespace Sn
open PySem PySem.Spec PyProof.Rows L2 TL
def ltS (a b : Str) : Prop := ltCps (tl a) (tl b) = true
theorem lt_irr : ∀ l : List Nat, ltCps l l = false
  | [] => rfl
  | a :: r => by simp [ltCps, lt_irr r]
theorem lt_trans : ∀ {a b c : List Nat}, ltCps a b = true → ltCps b c = true → ltCps a c = true
  | [], [], _, h, _ => by simp [ltCps] at h
  | [], _ :: _, [], _, h => by simp [ltCps] at h
  | [], _ :: _, _ :: _, _, _ => by simp [ltCps]
  | _ :: _, [], _, h, _ => by simp [ltCps] at h
  | _ :: _, _ :: _, [], _, h => by simp [ltCps] at h
  | x :: a, y :: b, z :: c, h, k => by
    simp only [ltCps, Bool.or_eq_true, Bool.and_eq_true, decide_eq_true_eq, beq_iff_eq] at h k ⊢
    rcases h with h | ⟨e, h⟩ <;> rcases k with k | ⟨e2, k⟩
    · exact .inl (by omega)
    · exact .inl (by omega)
    · exact .inl (by omega)
    · exact .inr ⟨by omega, lt_trans h k⟩
theorem lt_tri : ∀ {a b : List Nat}, ltCps a b = false → ltCps b a = false → a = b
  | [], [], _, _ => rfl
  | [], _ :: _, h, _ => by simp [ltCps] at h
  | _ :: _, [], _, h => by simp [ltCps] at h
  | x :: a, y :: b, h, k => by
    simp only [ltCps, Bool.or_eq_false_iff, Bool.and_eq_false_iff, decide_eq_false_iff_not, beq_eq_false_iff_ne] at h k
    have e : x = y := by omega
    subst e
    rw [lt_tri (h.2.resolve_left (by simp)) (k.2.resolve_left (by simp))]
/-- strictly rising -/
abbrev Ris (l : List Str) : Prop := l.Pairwise ltS
theorem ris_of : ∀ (l : List Str), sortedS l = true → l.Nodup → Ris l
  | [], _, _ => .nil
  | [a], _, _ => List.pairwise_singleton _ _
  | a :: b :: r, h, n => by
    have h1 : risingS a (b :: r) = true := h
    unfold risingS at h1
    simp only [Bool.and_eq_true, Bool.not_eq_true'] at h1
    have n2 := List.nodup_cons.mp n
    have ih := ris_of (b :: r) h1.2 n2.2
    have hab : ltS a b := by
      unfold ltS
      cases e : ltCps (tl a) (tl b) with
      | true => rfl
      | false => exact absurd (ext_tl (lt_tri e h1.1)) (fun q => n2.1 (q ▸ List.mem_cons.mpr (.inl rfl)))
    refine List.pairwise_cons.mpr ⟨fun x hx => ?_, ih⟩
    rcases List.mem_cons.mp hx with rfl | hx
    · exact hab
    · exact lt_trans hab ((List.pairwise_cons.mp ih).1 x hx)
theorem ris_eq : ∀ {l r : List Str}, Ris l → Ris r → (∀ z, z ∈ l ↔ z ∈ r) → l = r
  | [], [], _, _, _ => rfl
  | [], b :: r, _, _, h => absurd ((h b).mpr (List.mem_cons.mpr (.inl rfl))) (by simp)
  | a :: l, [], _, _, h => absurd ((h a).mp (List.mem_cons.mpr (.inl rfl))) (by simp)
  | a :: l, b :: r, p, q, h => by
    have p1 := List.pairwise_cons.mp p
    have q1 := List.pairwise_cons.mp q
    have irr : ∀ x : Str, ¬ ltS x x := fun x e => by unfold ltS at e; rw [lt_irr] at e; cases e
    have e : a = b := by
      rcases List.mem_cons.mp ((h a).mp (List.mem_cons.mpr (.inl rfl))) with e | h1
      · exact e
      · rcases List.mem_cons.mp ((h b).mpr (List.mem_cons.mpr (.inl rfl))) with e | h2
        · exact e.symm
        · exact absurd (lt_trans (p1.1 b h2) (q1.1 a h1)) (irr a)
    subst e
    refine congrArg (a :: ·) (ris_eq p1.2 q1.2 fun z => ⟨fun hz => ?_, fun hz => ?_⟩)
    · rcases List.mem_cons.mp ((h z).mp (List.mem_cons.mpr (.inr hz))) with e | h1
      · exact absurd (e ▸ p1.1 z hz) (irr a)
      · exact h1
    · rcases List.mem_cons.mp ((h z).mpr (List.mem_cons.mpr (.inr hz))) with e | h1
      · exact absurd (e ▸ q1.1 z hz) (irr a)
      · exact h1
theorem ris_nodup {l : List Str} (h : Ris l) : l.Nodup := List.Pairwise.imp (fun {a b} q e => by subst e; unfold ltS at q; rw [lt_irr] at q; cases q) h
/-- the keys of a dict whose values do not matter: each once, in the order of their first coming -/
def once (l : List Str) : List Str := l.foldl (fun acc z => if z ∈ acc then acc else acc ++ [z]) []
end Sn

/-! ## Plain texts as data: shapes, equality; keys of a dict; paths -/
namespace Sn
open PySem PySem.Spec PyProof.Rows L2 TL
def Asc (z : Str) : Prop := ∀ c ∈ tl z, c < 128
theorem asc_app {x y : Str} (a : Asc x) (b : Asc y) : Asc (x ++ y) := fun c h => by
  rw [tl_append] at h
  exact (List.mem_append.mp h).elim (a c) (b c)
theorem asc_cut {z : Str} (a : Asc z) (lo hi : Option Int) : Asc (cutS z lo hi) := fun c h => a c (List.mem_of_mem_drop (List.mem_of_mem_take h))
theorem sgn_asc : ∀ c ∈ tl sgnS, c < 128 := by decide +kernel
theorem isN_sgn {z : Str} (h : isN z = true) : ∀ c ∈ tl z, c ∈ tl sgnS := fun c hc => by
  unfold isN isW at h
  simp only [Bool.and_eq_true, List.all_eq_true, decide_eq_true_eq] at h
  exact h.1.2 c hc
theorem asc_name {z : Str} (h : isN z = true) : Asc z := fun c hc => sgn_asc c (isN_sgn h c hc)
theorem dp_strs {K : PySem.W.Frag} {H : Hp} : ∀ l : List Str, DpAll K H (l.map V.str) (l.map PyData.str)
  | [] => .nil
  | z :: r => .cons (.str z) (dp_strs r)
theorem canLay_strs (l : List Str) : (∀ z ∈ l, Asc z) → PyData.canLayAll0 (l.map PyData.str) = true := by
  induction l with
  | nil => intro _; rfl
  | cons z r ih =>
    intro h
    have hz : PyData.strOk z = true := by
      unfold PyData.strOk
      rw [← Array.all_toList, List.all_eq_true]
      intro c hc
      have := h z (List.mem_cons.mpr (.inl rfl)) c hc
      exact decide_eq_true (by omega)
    simp only [List.map_cons, PyData.canLayAll0, PyData.canLay0, hz, ih fun y hy => h y (List.mem_cons.mpr (.inr hy))]
    rfl
theorem depth_strs (l : List Str) : PyData.depthAll (l.map PyData.str) = 0 := by
  induction l with
  | nil => rfl
  | cons z r ih => simp [PyData.depthAll, PyData.depth, ih]
theorem shaped_strs (l : List Str) (h : ∀ z ∈ l, Asc z) : SeqAt.shaped (.list (l.map PyData.str)) = true := by
  simp [SeqAt.shaped, PyData.canLay0, PyData.depth, canLay_strs l h, depth_strs l]
theorem shaped_tstrs (l : List Str) (h : ∀ z ∈ l, Asc z) : SeqAt.shaped (.tuple (l.map PyData.str)) = true := by
  simp [SeqAt.shaped, PyData.canLay0, PyData.depth, canLay_strs l h, depth_strs l]
theorem eqvAll_strs : ∀ l r : List Str, PyData.eqvAll (l.map PyData.str) (r.map PyData.str) = decide (l = r)
  | [], [] => rfl
  | [], _ :: _ => by simp [PyData.eqvAll]
  | _ :: _, [] => by simp [PyData.eqvAll]
  | a :: l, b :: r => by
    show (PyData.eqv (.str a) (.str b) && PyData.eqvAll (l.map PyData.str) (r.map PyData.str)) = _
    rw [eqvAll_strs l r]
    show ((a == b) && decide (l = r)) = _
    by_cases h : a = b
    · subst h; simp
    · simp [h]
theorem eqv_lists (l r : List Str) : PyData.eqv (.list (l.map PyData.str)) (.list (r.map PyData.str)) = decide (l = r) := by
  show PyData.eqvAll _ _ = _
  exact eqvAll_strs l r
theorem eqv_tups (l r : List Str) : PyData.eqv (.tuple (l.map PyData.str)) (.tuple (r.map PyData.str)) = decide (l = r) := by
  show PyData.eqvAll _ _ = _
  exact eqvAll_strs l r
/-- a path, as the sets want it -/
structure Pth (z : Str) : Prop where
  p : isP z = true
  a : Asc z
  l : z.length ≤ 1000
theorem dot_no : 46 ∉ tl sgnS := by decide +kernel
theorem pth_of {a b : Str} (ha : isN a = true) (hb : isN b = true) : Pth (a ++ "." ++ b) := by
  have na : 46 ∉ tl a := fun h => dot_no (isN_sgn ha _ h)
  have nb : 46 ∉ tl b := fun h => dot_no (isN_sgn hb _ h)
  have e : tl (a ++ "." ++ b) = tl a ++ 46 :: tl b := by
    rw [tl_append, tl_append, show tl ("." : Str) = [46] by decide +kernel, List.append_assoc]; rfl
  have sp := split_one e na
  have sp2 : spl [46] 0 [] (tl b) = [tl b] := spl_last1 (s := 46) (S := []) (p := tl b) (acc := []) nb
  have es : Txt.split (a ++ "." ++ b) dotS = [a, b] := by
    apply map_tl_inj
    rw [sp, sp2]; rfl
  have ha8 := isN_len ha
  have hb8 := isN_len hb
  refine ⟨?_, asc_app (asc_app (asc_name ha) (by unfold Asc; decide +kernel)) (asc_name hb), ?_⟩
  · unfold isP
    have es2 : Txt.split (a ++ "." ++ b) "." = [a, b] := es
    rw [es2]
    simp [ha, hb]
  · rw [len_tl, e, List.length_append, List.length_cons, ← len_tl, ← len_tl]
    omega
/-- texts as keys, all with True -/
def trues (ks : List Str) : List (Key × V) := ks.map fun z => (Sum.inr z, V.bl true)
theorem put_true (ks : List Str) (z : Str) : putK (trues ks) (Sum.inr z) (.bl true) = trues (if z ∈ ks then ks else ks ++ [z]) := by
  unfold putK
  have h : ((trues ks).any fun kv => decide (kv.1 = Sum.inr z)) = decide (z ∈ ks) := by
    unfold trues
    rw [List.any_map, Bool.eq_iff_iff, List.any_eq_true, decide_eq_true_eq]
    constructor
    · rintro ⟨x, hx, e⟩
      have e2 : (Sum.inr x : Key) = Sum.inr z := by simpa using e
      injection e2 with e2
      exact e2 ▸ hx
    · intro hz
      exact ⟨z, hz, by simp⟩
  rw [h]
  by_cases hz : z ∈ ks
  · rw [if_pos (decide_eq_true hz), if_pos hz]
    unfold trues
    rw [List.map_map]
    refine List.map_congr_left fun x _ => ?_
    show (if (Sum.inr x : Key) = Sum.inr z then ((Sum.inr x : Key), V.bl true) else (Sum.inr x, V.bl true)) = _
    split <;> rfl
  · rw [if_neg (by simpa using hz), if_neg hz]
    unfold trues
    rw [List.map_append]; rfl
theorem map_str_inj {l r : List Str} (h : l.map V.str = r.map V.str) : l = r := by
  induction l generalizing r with
  | nil => cases r with
    | nil => rfl
    | cons _ _ => cases h
  | cons a l ih => cases r with
    | nil => cases h
    | cons b r =>
      injection h with h1 h2
      injection h1 with h1
      rw [h1, ih h2]
theorem get_strs {l : List Str} {i : Nat} {x : V} (h : (l.map V.str)[i]? = some x) : ∃ z, l[i]? = some z ∧ x = V.str z := by
  rw [List.getElem?_map] at h
  cases e : l[i]? with
  | none => rw [e] at h; cases h
  | some y => rw [e] at h; exact ⟨y, rfl, (Option.some.inj h).symm⟩
end Sn

/-! ## are_different, are_names, are_pairs -/
namespace Sn
open PySem PySem.Spec PyProof.Rows L2 TL
section
variable {J : It} {n : Nat} {G : Hp → Prop} {Y : Nat → Hp → V → Hp → Prop}
/-- a dict comprehension over anything -/
theorem dc_it (w : Walk J n G Y) {g : TG} {tt : TT} {tk tv : TE} {vs : List Nat} {σ : L2.St} {H1 : Hp} {D : Addr} {Qd : Hp → Prop} (Pv : Nat → Hp → Prop) (h0 : Pv 0 (upd H1 D (.dK []))) (hG : ∀ i H, i ≤ n → Pv i H → G H)
    (hs : ∀ i x H H', i < n → Pv i H → Y i H x H' → g x (wipe σ vs) H' fun σ2 H2 => wipe σ2 vs = wipe σ vs ∧ tt σ2 H2 fun b H3 =>
      if b = true then tk σ2 H3 fun y H4 => tv σ2 H4 fun z H5 => ∃ kvs k, y = kV k ∧ H5 D = some (.dK kvs) ∧ kvs.length < sizeLine ∧ Pv (i + 1) (upd H5 D (.dK (putK kvs k z))) else Pv (i + 1) H3) (hd : ∀ H, Pv n H → Qd H) :
    ∃ W : Nat → Nat → Hp → Prop, (∃ m, W 0 m (upd H1 D (.dK []))) ∧ ∀ i m H, W i m H →
      (J.stop i H ∧ Qd H) ∨ (J.go i H ∧ ∃ Nx : Hp → Prop, (∀ H', Nx H' → ∃ m', m' < m ∧ W (i + 1) m' H') ∧ ∀ x H', J.yld i H x H' → g x (wipe σ vs) H' fun σ2 H2 => wipe σ2 vs = wipe σ vs ∧ tt σ2 H2 fun b H3 =>
        if b = true then tk σ2 H3 fun y H4 => tv σ2 H4 fun z H5 => ∃ kvs k, y = kV k ∧ H5 D = some (.dK kvs) ∧ kvs.length < sizeLine ∧ Nx (upd H5 D (.dK (putK kvs k z))) else Nx H3) := by
  refine ⟨fun i m H => m = n - i ∧ i ≤ n ∧ Pv i H, ⟨n, by simp, Nat.zero_le _, h0⟩, ?_⟩
  rintro i m H ⟨rfl, hi, p⟩
  have q := hG i H hi p
  by_cases hlt : i < n
  · exact .inr ⟨w.goes i H hlt q, Pv (i + 1), fun H' p' => ⟨n - (i + 1), by omega, rfl, hlt, p'⟩, fun x H' y => hs i x H H' hlt p (w.yields i H x H' hlt q y)⟩
  · have e : i = n := by omega
    subst e
    exact .inl ⟨w.stops H q, hd H p⟩
end
theorem nodup_snoc {l : List Str} {z : Str} : (l ++ [z]).Nodup ↔ l.Nodup ∧ z ∉ l := by
  rw [List.nodup_append]
  constructor
  · rintro ⟨h1, _, h3⟩
    exact ⟨h1, fun hm => h3 z hm z (List.mem_singleton.mpr rfl) rfl⟩
  · rintro ⟨h1, h2⟩
    exact ⟨h1, by simp, fun u hu v hv e => h2 (by rw [← List.mem_singleton.mp hv, ← e]; exact hu)⟩
/-- the keys behind some texts -/
structure Keys (ks zs : List Str) : Prop where
  mem : ∀ z, z ∈ ks ↔ z ∈ zs
  le : ks.length ≤ zs.length
  all : ks.length = zs.length ↔ zs.Nodup
theorem Keys.nil : Keys [] [] := ⟨fun _ => Iff.rfl, Nat.le_refl _, by simp⟩
theorem Keys.snoc {ks zs : List Str} (h : Keys ks zs) (z : Str) : Keys (if z ∈ ks then ks else ks ++ [z]) (zs ++ [z]) := by
  have le := h.le
  by_cases hz : z ∈ ks
  · rw [if_pos hz]
    refine ⟨fun y => ?_, by simp; omega, ?_⟩
    · rw [List.mem_append, List.mem_singleton, ← h.mem]
      exact ⟨.inl, fun q => q.elim id fun e => e ▸ hz⟩
    · rw [nodup_snoc, List.length_append]
      constructor
      · intro e
        simp at e
        omega
      · rintro ⟨_, q⟩
        exact absurd ((h.mem z).mp hz) q
  · rw [if_neg hz]
    refine ⟨fun y => ?_, by simp; omega, ?_⟩
    · rw [List.mem_append, List.mem_append, List.mem_singleton, h.mem]
    · rw [nodup_snoc, ← h.all, ← h.mem, List.length_append, List.length_append]
      constructor
      · intro e
        exact ⟨by simpa using e, hz⟩
      · rintro ⟨e, _⟩
        rw [e]
theorem nodup_strs {zs : List Str} : (zs.map V.str).Nodup ↔ zs.Nodup := by
  unfold List.Nodup
  rw [List.pairwise_map]
  constructor
  · exact fun h => h.imp fun q e => q (by rw [e])
  · exact fun h => h.imp fun q e => q (by injection e)
section
variable {P : Program} {w : World} {K : PySem.W.Frag} {mg : Str → Option Value} {base : Heap}
def spDiffT (K : PySem.W.Frag) : Sp := fun vs H Q _ => ∃ (p : Addr) (zs : List Str), vs = [.ref p] ∧ SqT K H p (zs.map V.str) ∧ (∀ H', Same H H' → SqT K H' p (zs.map V.str)) ∧ zs.length ≤ 1000 ∧ ∀ H', Same H H' → Q (.bl (decide zs.Nodup)) H'
def spDiffL (K : PySem.W.Frag) : Sp := fun vs H Q _ => ∃ (p : Addr) (zs : List Str), vs = [.ref p] ∧ SqL K H p (zs.map V.str) ∧ (∀ H', Same H H' → SqL K H' p (zs.map V.str)) ∧ zs.length ≤ 1000 ∧ ∀ H', Same H H' → Q (.bl (decide zs.Nodup)) H'
theorem ok_diffT (T : Txt K mg) : FnOk P w K mg base CX0 1 T.f_are_different T.fd_are_different ["values"] (spDiffT K) := by
  refine T.F_are_different.ok sc_are_different (fun vs H Q E h => ?_) (fun cdv A outer s H vs Q E hr h => ?_)
  · obtain ⟨p, zs, rfl, _⟩ := h
    rfl
  · obtain ⟨p, zs, rfl, hp0, hp, hl, k⟩ := h
    refine ⟨_, (pss_one (ps_ret (pe_cmpR op_eq (pe_callB call_lenD (by rfl) T.z_len (by decide +kernel) (pa_cons (pe_dc (own := [("value", 1)]) (g := gName 1) (by rfl) sc_are_different.nd (pi_tup (pv 0)) (blkOk_by (own := [("value", 1)]) (N := n_are_different) (sc := defScope s_are_different) (by decide +kernel)) (fun _ _ _ _ _ => (pg_name (i := 1) sc_are_different.nd rfl (Or.inl rfl))) (fun _ _ _ _ _ => pts_nil) (fun _ _ _ _ _ => (pv 1)) (fun _ _ _ _ _ => pe_bl)) pa_nil)) (pe_callB (call_lenN (K := K)) (by rfl) T.z_len (by decide +kernel) (pa_cons (pv 0) pa_nil)) (nomark _)))), ?_⟩
    refine ⟨_, rfl, p, rfl, ⟨_, hp0⟩, fun D hD => ?_⟩
    refine dc_it (walk_tup (K := K) (a := p) (xs := zs.map V.str)) (fun i H3 => ∃ ks : List Str, Same H H3 ∧ H3 D = some (.dK (trues ks)) ∧ Keys ks (zs.take i)) ⟨[], same_new hD, by rw [upd_same]; rfl, by rw [List.take_zero]; exact .nil⟩ (fun i H3 _ ⟨_, s3, _⟩ => hp _ s3) ?_ ?_
    · rintro i x H3 H4 hi ⟨ks, s3, hD3, hk⟩ ⟨rfl, hx⟩
      obtain ⟨z, hz, rfl⟩ := get_strs hx
      refine ⟨rfl, ?_⟩
      refine ⟨_, rfl, trues ks, Sum.inr z, rfl, hD3, ?_, ?_⟩
      · unfold trues
        rw [List.length_map]
        have := hk.le
        rw [List.length_take] at this
        exact small1000 (by omega)
      · refine ⟨if z ∈ ks then ks else ks ++ [z], same_in s3 hD, by rw [upd_same, put_true], ?_⟩
        rw [takes hz]
        exact hk.snoc z
    · rintro H3 ⟨ks, s3, hD3, hk⟩
      rw [List.length_map, List.take_length] at hk
      refine ⟨D, trues ks, rfl, hD3, _, rfl, _, _, rfl, .inr ⟨_, hp _ s3, rfl⟩, ?_⟩
      have q := k H3 s3
      have e : decide (V.int ((trues ks).length : Nat) = V.int ((zs.map V.str).length : Nat)) = decide zs.Nodup := by
        rw [decide_eq_decide, List.length_map, ← hk.all, show (trues ks).length = ks.length from List.length_map _]
        constructor
        · intro e
          injection e with e
          omega
        · intro e
          rw [e]
      rw [← e] at q
      exact ⟨rfl, q⟩
theorem ok_diffL (T : Txt K mg) : FnOk P w K mg base CX0 1 T.f_are_different T.fd_are_different ["values"] (spDiffL K) := by
  refine T.F_are_different.ok sc_are_different (fun vs H Q E h => ?_) (fun cdv A outer s H vs Q E hr h => ?_)
  · obtain ⟨p, zs, rfl, _⟩ := h
    rfl
  · obtain ⟨p, zs, rfl, hp0, hp, hl, k⟩ := h
    refine ⟨_, (pss_one (ps_ret (pe_cmpR op_eq (pe_callB call_lenD (by rfl) T.z_len (by decide +kernel) (pa_cons (pe_dc (own := [("value", 1)]) (g := gName 1) (by rfl) sc_are_different.nd (pi_list (pv 0)) (blkOk_by (own := [("value", 1)]) (N := n_are_different) (sc := defScope s_are_different) (by decide +kernel)) (fun _ _ _ _ _ => (pg_name (i := 1) sc_are_different.nd rfl (Or.inl rfl))) (fun _ _ _ _ _ => pts_nil) (fun _ _ _ _ _ => (pv 1)) (fun _ _ _ _ _ => pe_bl)) pa_nil)) (pe_callB (call_lenN (K := K)) (by rfl) T.z_len (by decide +kernel) (pa_cons (pv 0) pa_nil)) (nomark _)))), ?_⟩
    refine ⟨_, rfl, p, rfl, ⟨_, hp0⟩, fun D hD => ?_⟩
    refine dc_it (walk_list (K := K) (a := p) (xs := zs.map V.str)) (fun i H3 => ∃ ks : List Str, Same H H3 ∧ H3 D = some (.dK (trues ks)) ∧ Keys ks (zs.take i)) ⟨[], same_new hD, by rw [upd_same]; rfl, by rw [List.take_zero]; exact .nil⟩ (fun i H3 _ ⟨_, s3, _⟩ => hp _ s3) ?_ ?_
    · rintro i x H3 H4 hi ⟨ks, s3, hD3, hk⟩ ⟨rfl, hx⟩
      obtain ⟨z, hz, rfl⟩ := get_strs hx
      refine ⟨rfl, ?_⟩
      refine ⟨_, rfl, trues ks, Sum.inr z, rfl, hD3, ?_, ?_⟩
      · unfold trues
        rw [List.length_map]
        have := hk.le
        rw [List.length_take] at this
        exact small1000 (by omega)
      · refine ⟨if z ∈ ks then ks else ks ++ [z], same_in s3 hD, by rw [upd_same, put_true], ?_⟩
        rw [takes hz]
        exact hk.snoc z
    · rintro H3 ⟨ks, s3, hD3, hk⟩
      rw [List.length_map, List.take_length] at hk
      refine ⟨D, trues ks, rfl, hD3, _, rfl, _, _, rfl, .inl ⟨_, hp _ s3, rfl⟩, ?_⟩
      have q := k H3 s3
      have e : decide (V.int ((trues ks).length : Nat) = V.int ((zs.map V.str).length : Nat)) = decide zs.Nodup := by
        rw [decide_eq_decide, List.length_map, ← hk.all, show (trues ks).length = ks.length from List.length_map _]
        constructor
        · intro e
          injection e with e
          omega
        · intro e
          rw [e]
      rw [← e] at q
      exact ⟨rfl, q⟩
end
end Sn

/-! ## are_names, are_pairs -/
namespace Sn
open PySem PySem.Spec PyProof.Rows L2 TL
def strB : PyData → Bool
  | .str z => decide (z.length ≤ 1000)
  | _ => true
def dW : PyData → Bool
  | .str z => isW z
  | _ => false
def dN : PyData → Bool
  | .str z => isN z
  | _ => false
def dS : PyData → Str
  | .str z => z
  | _ => ""
def dNames (lo hi : Int) : PyData → Bool
  | .tuple ds => decide (lo ≤ ds.length) && decide ((ds.length : Int) ≤ hi) && (ds.all dN && decide (ds.map dS).Nodup)
  | _ => false
def dKey : PyData → Str
  | .tuple (.str z :: _) => z
  | _ => ""
def dPair : PyData → Bool
  | .tuple [a, b] => dW a && decide (dS a ≠ "") && dN b
  | _ => false
def dPairs : PyData → Bool
  | .tuple ds => decide (1 ≤ ds.length) && decide (ds.length ≤ 12) && (ds.all dPair && decide (ds.map dKey).Nodup)
  | _ => false
section
variable {P : Program} {w : World} {K : PySem.W.Frag} {mg : Str → Option Value} {base : Heap}
theorem Dh.arg {H : Hp} {v : V} {d : PyData} (h : Dh H v d) (b : strB d = true) : Arg K H v := by
  cases h with
  | str z => exact .inl ⟨z, rfl, of_decide_eq_true b⟩
  | non => exact .inr ⟨_, (Dh.non : Dh H _ _).ty, kit_s⟩
  | bl x => exact .inr ⟨_, (Dh.bl x : Dh H _ _).ty, kit_s⟩
  | int x => exact .inr ⟨_, (Dh.int x : Dh H _ _).ty, kit_s⟩
  | lst h1 h2 => exact .inr ⟨_, (Dh.lst h1 h2).ty, kit_s⟩
  | tup h1 h2 => exact .inr ⟨_, (Dh.tup h1 h2).ty, kit_s⟩
  | dk h1 => exact .inr ⟨_, (Dh.dk h1).ty, kit_s⟩
theorem Dh.ansN {H : Hp} {v : V} {d : PyData} (h : Dh H v d) : ans isN v = dN d := by cases h <;> rfl
theorem Dh.ansW {H : Hp} {v : V} {d : PyData} (h : Dh H v d) : ans isW v = dW d := by cases h <;> rfl
theorem all_names : ∀ {H : Hp} {xs : List V} {ds : List PyData}, DhAll H xs ds → ds.all dN = true → xs = (ds.map dS).map V.str := by
  intro H xs ds h
  induction ds generalizing xs with
  | nil => intro _; cases h; rfl
  | cons d ds ih =>
    intro ha
    rw [List.all_cons, Bool.and_eq_true] at ha
    cases h with
    | cons h1 h2 =>
      rw [ih h2 ha.2]
      cases h1 <;> first | rfl | cases ha.1
def spNames (K : PySem.W.Frag) : Sp := fun vs H Q _ => ∃ (v : V) (d : PyData) (lo hi : Int), vs = [v, .int lo, .int hi] ∧ Dh H v d ∧ (∀ ds, d = .tuple ds → ds.length ≤ 1000 ∧ ∀ x ∈ ds, strB x = true) ∧ ∀ H', Same H H' → Q (.bl (dNames lo hi d)) H'
theorem ok_names (T : Txt K mg) : FnOk P w K mg base CX0 3 T.f_are_names T.fd_are_names ["value", "least", "most"] (spNames K) := by
  have GN : FnOk P w K mg base CX0 2 T.f_is_name T.fd_is_name ["value"] (spAsk K isN) := ok_name T
  have GD : FnOk P w K mg base CX0 1 T.f_are_different T.fd_are_different ["values"] (spDiffT K) := ok_diffT T
  refine T.F_are_names.ok sc_are_names (fun vs H Q E h => ?_) (fun cdv A outer s H vs Q E hr h => ?_)
  · obtain ⟨v, d, lo, hi, rfl, _⟩ := h
    rfl
  · obtain ⟨v, d, lo, hi, rfl, hd, hb, k⟩ := h
    refine ⟨_, (pss_cons (ps_if (PW.pt (pw_or (pt_not (pt_val (pe_callB (call_isiN (K := K)) (by rfl) T.z_isinstance (by decide +kernel) (pa_cons (pv 0) (pa_cons (pe_bltn (v := .ty "tuple") (by rfl) T.z_tuple (by decide +kernel) rfl) pa_nil))))) (pw_or1 (pt_not (pt_chain op_le op_le (pv 1) (pe_callB (call_lenN (K := K)) (by rfl) T.z_len (by decide +kernel) (pa_cons (pv 0) pa_nil)) (pv 2))))))
        (pss_one (ps_ret pe_bl))
        pss_nil)
      (pss_one (ps_ret (pe_and (pe_callB (cr_all rfl) (by rfl) T.z_all (by decide +kernel) (pa_cons (pe_lc (own := [("name", 3)]) (g := gName 3) (by rfl) sc_are_names.nd (pi_tup (pv 0)) (blkOk_by (own := [("name", 3)]) (N := n_are_names) (sc := defScope s_are_names) (by decide +kernel)) (fun _ _ _ _ _ => (pg_name (i := 3) sc_are_names.nd rfl (Or.inl rfl))) (fun _ _ _ _ _ => pts_nil) (fun _ _ _ _ _ => (pe_call (ok_name T) (hr.mono (by decide)) rfl T.g_is_name T.F_is_name.kp T.b_is_name .nil pass0 (pa_cons (pv 3) pa_nil)))) pa_nil)) (pe_one (pe_call (ok_diffT T) (hr.mono (by decide)) rfl T.g_are_different T.F_are_different.kp T.b_are_different .nil pass0 (pa_cons (pv 0) pa_nil))))))), ?_⟩
    refine ⟨_, rfl, _, .ty "tuple", _, .type "tuple", _, rfl, .ty "tuple", hd.ty, kit_t, _, rfl, ?_⟩
    have q0 := k H (Same.refl H)
    cases hd with
    | tup ha hall =>
      rename_i a xs ds
      obtain ⟨hl, hm⟩ := hb ds rfl
      have lx := hall.len
      refine iteF ?_
      refine ⟨_, rfl, _, rfl, _, xs.length, rfl, .inr ⟨_, .inl (.inl ha), rfl⟩, ?_⟩
      refine ⟨_, _, rfl, rfl, _, rfl, ?_⟩
      have q1 : ∀ H', Same H H' → Q (.bl (decide (lo ≤ ((xs.length : Nat) : Int)) && decide (((xs.length : Nat) : Int) ≤ hi) && (ds.all dN && decide (ds.map dS).Nodup))) H' := fun H' sm => by
        have q := k H' sm
        rw [lx]
        exact q
      by_cases h1 : lo ≤ ((xs.length : Nat) : Int)
      · refine iteDT (decide_eq_true h1) ⟨_, rfl, _, _, rfl, rfl, _, rfl, ?_⟩
        by_cases h2 : ((xs.length : Nat) : Int) ≤ hi
        · refine iteDF (by simp [h2]) ?_
          rw [decide_eq_true h1, decide_eq_true h2] at q1
          simp only [Bool.true_and] at q1
          refine ⟨_, rfl, a, rfl, ⟨_, .inl (.inl ha)⟩, fun D hD => ?_⟩
          refine lc_out (walk_tup (K := K) (a := a) (xs := xs)) (fun i => .bl (dN (ds.getD i .none))) (by omega) hD (fun H1 s1 => .inl (.inl (s1 _ _ ha))) ?_ ?_
          · rintro i x H1 H2 Qg hi s1 ⟨rfl, hx⟩ kk
            obtain ⟨e, he, hde⟩ := hall.get hx
            refine kk _ _ (Same.refl _) rfl fun R hR => ?_
            refine ⟨_, rfl, _, rfl, (hde.same s1).arg (hm e (List.mem_of_getElem? he)), fun H3 s3 => ?_⟩
            have := hR H3 s3
            rw [getD_of he, ← hde.ansN] at this
            exact this
          · intro H1 s1 hl1
            have eb : (List.range xs.length).map (fun i => V.bl (dN (ds.getD i .none))) = ((List.range xs.length).map fun i => dN (ds.getD i .none)).map V.bl := by rw [List.map_map]; rfl
            rw [eb] at hl1
            refine ⟨D, _, rfl, .inl (.inl hl1), _, rfl, ?_⟩
            have ea : (((List.range xs.length).map fun i => dN (ds.getD i .none)).all id) = ds.all dN := by
              rw [List.all_map, lx]
              exact all_range dN .none ds
            rw [ea]
            cases hall2 : ds.all dN with
            | false =>
              refine iteF ?_
              have := q1 H1 s1
              rw [hall2] at this
              exact this
            | true =>
              refine iteT ?_
              have ex := all_names hall hall2
              refine ⟨_, rfl, a, ds.map dS, rfl, .inl (.inl (s1 _ _ (ex ▸ ha))), fun H3 s3 => .inl (.inl (s3 _ _ (s1 _ _ (ex ▸ ha)))), by rw [List.length_map]; exact hl, fun H3 s3 => ?_⟩
              have := q1 H3 (s1.trans s3)
              rw [hall2] at this
              exact this
        · refine iteDT (by simp [h2]) ?_
          have := q1 H (Same.refl H)
          rw [decide_eq_false h2] at this
          simp only [Bool.and_false, Bool.false_and] at this
          exact this
      · refine iteDF (decide_eq_false h1) ⟨_, rfl, iteT ?_⟩
        have := q1 H (Same.refl H)
        rw [decide_eq_false h1] at this
        simp only [Bool.and_false, Bool.false_and] at this
        exact this
    | non => exact iteT q0
    | bl b => exact iteT q0
    | int b => exact iteT q0
    | str b => exact iteT q0
    | lst _ _ => exact iteT q0
    | dk _ => exact iteT q0
theorem all_pairs : ∀ {H : Hp} {xs : List V} {ds : List PyData}, DhAll H xs ds → ds.all dPair = true → ∀ (i : Nat) (x : V), xs[i]? = some x → ∃ (p : Addr) (z y : Str), x = .ref p ∧ H p = some (.tup [.str z, .str y]) ∧ ds[i]? = some (.tuple [.str z, .str y]) := by
  intro H xs ds h ha i x hx
  obtain ⟨d, hd, hh⟩ := h.get hx
  have hp := List.all_eq_true.mp ha d (List.mem_of_getElem? hd)
  cases hh with
  | tup h1 h2 =>
    rename_i p ys es
    cases h2 with
    | nil => cases hp
    | cons g1 g2 =>
      cases g2 with
      | nil => cases hp
      | cons g3 g4 =>
        cases g4 with
        | cons _ _ => cases hp
        | nil =>
          cases g1 <;> first | (exfalso; simp [dPair, dW] at hp; done) | (cases g3 <;> first | (exfalso; simp [dPair, dN] at hp; done) | exact ⟨p, _, _, rfl, h1, hd⟩)
  | _ => cases hp
theorem two_of {H : Hp} {ys : List V} {es : List PyData} (h : DhAll H ys es) : (ys.length ≠ 2 ∧ dPair (.tuple es) = false) ∨ ∃ v0 v1 d0 d1, ys = [v0, v1] ∧ es = [d0, d1] ∧ Dh H v0 d0 ∧ Dh H v1 d1 := by
  cases h with
  | nil => exact .inl ⟨by simp, rfl⟩
  | cons g1 g2 =>
    cases g2 with
    | nil => exact .inl ⟨by simp, rfl⟩
    | cons g3 g4 =>
      cases g4 with
      | cons _ _ => exact .inl ⟨by simp, rfl⟩
      | nil => exact .inr ⟨_, _, _, _, rfl, rfl, g1, g3⟩
def pairB : PyData → Bool
  | .tuple ds => ds.all strB
  | _ => true
def spPairs (K : PySem.W.Frag) : Sp := fun vs H Q _ => ∃ (v : V) (d : PyData), vs = [v] ∧ Dh H v d ∧ (∀ ds, d = .tuple ds → ds.length ≤ 1000 ∧ ∀ x ∈ ds, pairB x = true) ∧ ∀ H', Same H H' → Q (.bl (dPairs d)) H'
theorem ok_pairs (T : Txt K mg) : FnOk P w K mg base CX0 3 T.f_are_pairs T.fd_are_pairs ["value"] (spPairs K) := by
  have GN : FnOk P w K mg base CX0 2 T.f_is_name T.fd_is_name ["value"] (spAsk K isN) := ok_name T
  have GW : FnOk P w K mg base CX0 1 T.f_is_word T.fd_is_word ["value"] (spAsk K isW) := ok_word T
  have GD : FnOk P w K mg base CX0 1 T.f_are_different T.fd_are_different ["values"] (spDiffL K) := ok_diffL T
  obtain ⟨t1, g_MOST_PAIRS⟩ := T.c_MOST_PAIRS
  refine T.F_are_pairs.ok sc_are_pairs (fun vs H Q E h => ?_) (fun cdv A outer s H vs Q E hr h => ?_)
  · obtain ⟨v, d, rfl, _⟩ := h
    rfl
  · obtain ⟨v, d, rfl, hd, hb, k⟩ := h
    refine ⟨_, (pss_cons (ps_if (PW.pt (pw_or (pt_not (pt_val (pe_callB (call_isiN (K := K)) (by rfl) T.z_isinstance (by decide +kernel) (pa_cons (pv 0) (pa_cons (pe_bltn (v := .ty "tuple") (by rfl) T.z_tuple (by decide +kernel) rfl) pa_nil))))) (pw_or1 (pt_not (pt_chain op_le op_le pe_int (pe_callB (call_lenN (K := K)) (by rfl) T.z_len (by decide +kernel) (pa_cons (pv 0) pa_nil)) (pe_glob (v := .int 12) rfl g_MOST_PAIRS ⟨_, rfl⟩))))))
        (pss_one (ps_ret pe_bl))
        pss_nil)
      (pss_cons (ps_for PassesOwn.never rfl (pi_tup (pv 0)) (pg_name (i := 1) sc_are_pairs.nd rfl (Or.inl rfl))
        (pss_cons (ps_if (PW.pt (pw_or (pt_not (pt_val (pe_callB (call_isiN (K := K)) (by rfl) T.z_isinstance (by decide +kernel) (pa_cons (pv 1) (pa_cons (pe_bltn (v := .ty "tuple") (by rfl) T.z_tuple (by decide +kernel) rfl) pa_nil))))) (pw_or (pt_cmpR op_ne (pe_callB (call_lenN (K := K)) (by rfl) T.z_len (by decide +kernel) (pa_cons (pv 1) pa_nil)) pe_int (nomark _)) (pw_or (pt_not (pt_val (pe_call (ok_word T) (hr.mono (by decide)) rfl T.g_is_word T.F_is_word.kp T.b_is_word .nil pass0 (pa_cons (pe_ix (ix_tupK (K := K)) (pv 1) pe_int (fun _ _ => rfl)) pa_nil)))) (pw_or1 (pt_cmpR op_eq (pe_ix (ix_tupK (K := K)) (pv 1) pe_int (fun _ _ => rfl)) pe_str (nomark _)))))))
        (pss_one (ps_ret pe_bl))
        pss_nil)
      (pss_one (ps_if (pt_not (pt_val (pe_call (ok_name T) (hr.mono (by decide)) rfl T.g_is_name T.F_is_name.kp T.b_is_name .nil pass0 (pa_cons (pe_ix (ix_tupK (K := K)) (pv 1) pe_int (fun _ _ => rfl)) pa_nil))))
        (pss_one (ps_ret pe_bl))
        pss_nil))))
      (pss_one (ps_ret (pe_call (ok_diffL T) (hr.mono (by decide)) rfl T.g_are_different T.F_are_different.kp T.b_are_different .nil pass0 (pa_cons (pe_lc (own := [("key", 2), ("name", 3)]) (g := gTup K 2 (gCons (gName 2) (gCons (gName 3) gNil))) (by rfl) sc_are_pairs.nd (pi_tup (pv 0)) (blkOk_by (own := [("key", 2), ("name", 3)]) (N := n_are_pairs) (sc := defScope s_are_pairs) (by decide +kernel)) (fun _ _ _ _ _ => (pg_tupK (K := K) rfl (pgs_cons (pg_name (i := 2) sc_are_pairs.nd rfl (Or.inl rfl)) (pgs_cons (pg_name (i := 3) sc_are_pairs.nd rfl (Or.inl rfl)) pgs_nil)))) (fun _ _ _ _ _ => pts_nil) (fun _ _ _ _ _ => (pv 2))) pa_nil)))))), ?_⟩
    refine ⟨_, rfl, _, .ty "tuple", _, .type "tuple", _, rfl, .ty "tuple", hd.ty, kit_t, _, rfl, ?_⟩
    have q0 := k H (Same.refl H)
    cases hd with
    | tup ha hall =>
      rename_i a xs ds
      obtain ⟨hl, hm⟩ := hb ds rfl
      have lx := hall.len
      refine iteF ?_
      refine ⟨_, rfl, _, xs.length, rfl, .inr ⟨_, .inl (.inl ha), rfl⟩, ?_⟩
      refine ⟨_, _, rfl, rfl, _, rfl, ?_⟩
      have q1 : ∀ H', Same H H' → Q (.bl (decide (1 ≤ xs.length) && decide (xs.length ≤ 12) && (ds.all dPair && decide (ds.map dKey).Nodup))) H' := fun H' sm => by
        have q := k H' sm
        rw [lx]
        exact q
      by_cases h1 : 1 ≤ xs.length
      · refine iteDT (decide_eq_true (by omega)) ⟨_, _, rfl, rfl, _, rfl, ?_⟩
        by_cases h2 : xs.length ≤ 12
        · refine iteDF (by simp; omega) ?_
          rw [decide_eq_true h1, decide_eq_true h2] at q1
          simp only [Bool.true_and] at q1
          refine ⟨_, rfl, a, rfl, ⟨_, .inl (.inl ha)⟩, ?_⟩
          refine for_it (walk_tup (K := K) (a := a) (xs := xs)) (fun i σ H2 => ∃ v1 : Option V, σ = [some (.ref a), v1, none, none] ∧ Same H H2 ∧ (ds.take i).all dPair = true) ⟨none, rfl, Same.refl H, rfl⟩ (fun i σ H2 _ ⟨_, _, s2, _⟩ => .inl (.inl (s2 _ _ ha))) ?_ ?_
          · rintro i x σ H2 H3 hi ⟨v1, rfl, s2, hi2⟩ ⟨rfl, hx⟩
            obtain ⟨e, he, hde0⟩ := hall.get hx
            have hde := hde0.same s2
            have hbe := hm e (List.mem_of_getElem? he)
            have badE : ∀ H4, Same H3 H4 → dPair e = false → Q (.bl false) H4 := fun H4 s4 hf => by
              have := q1 H4 (s2.trans s4)
              rw [show ds.all dPair = false from by
                rw [Bool.eq_false_iff]
                intro h
                rw [List.all_eq_true.mp h e (List.mem_of_getElem? he)] at hf
                cases hf] at this
              exact this
            refine ⟨_, rfl, _, .ty "tuple", _, .type "tuple", _, rfl, .ty "tuple", hde.ty, kit_t, _, rfl, ?_⟩
            cases hde with
            | tup ha2 hall3 =>
              rename_i b ys es
              have hL : LenV K (.ref b) H3 ys.length := .inr ⟨_, .inl (.inl ha2), rfl⟩
              refine iteF ⟨_, rfl, _, ys.length, rfl, hL, rfl, _, rfl, ?_⟩
              rcases two_of hall3 with ⟨n2, hf⟩ | ⟨v0, v1, d0, d1, rfl, rfl, h0, h1⟩
              · refine iteDT ?_ (badE _ (Same.refl _) hf)
                rw [Bool.not_eq_true', decide_eq_false_iff_not]
                intro e
                injection e with e
                omega
              · refine iteF ?_
                have b0 : strB d0 = true := List.all_eq_true.mp hbe d0 (by simp)
                have b1 : strB d1 = true := List.all_eq_true.mp hbe d1 (by simp)
                refine ⟨_, rfl, b, _, _, _, rfl, rfl, .inl (.inl ha2), atI_nat (j := 0) rfl, v0, rfl, h0.arg b0, fun H4 s4 => ⟨_, rfl, ?_⟩⟩
                cases w0 : dW d0 with
                | false =>
                  refine iteDT (by rw [h0.ansW, w0]; rfl) (badE _ s4 ?_)
                  show (dW d0 && _ && _) = false
                  rw [w0]; rfl
                | true =>
                  refine iteDF (by rw [h0.ansW, w0]; rfl) ?_
                  obtain ⟨z, rfl, rfl⟩ : ∃ z, v0 = V.str z ∧ d0 = PyData.str z := by cases h0 <;> first | exact ⟨_, rfl, rfl⟩ | cases w0
                  refine ⟨_, rfl, b, _, _, _, rfl, rfl, .inl (.inl (s4 _ _ ha2)), atI_nat (j := 0) rfl, rfl, _, rfl, ?_⟩
                  by_cases hz : z = ""
                  · refine iteDT (by rw [hz]; exact decide_eq_true rfl) (badE _ s4 ?_)
                    show (dW (.str z) && decide (z ≠ "") && _) = false
                    rw [w0, decide_eq_false (by rw [hz]; exact fun q => q rfl)]; rfl
                  · refine iteDF (decide_eq_false fun q => hz (by injection q)) ?_
                    refine ⟨_, rfl, b, _, _, _, rfl, rfl, .inl (.inl (s4 _ _ ha2)), atI_nat (j := 1) rfl, v1, rfl, (h1.same s4).arg b1, fun H5 s5 => ⟨_, rfl, ?_⟩⟩
                    cases n1 : dN d1 with
                    | false =>
                      refine iteDT (by rw [h1.ansN, n1]; rfl) (badE _ (s4.trans s5) ?_)
                      show (_ && _ && dN d1) = false
                      rw [n1, Bool.and_false]
                    | true =>
                      refine iteDF (by rw [h1.ansN, n1]; rfl) ⟨_, rfl, (s2.trans s4).trans s5, ?_⟩
                      rw [takes he, List.all_append, hi2, Bool.true_and, List.all_cons, List.all_nil, Bool.and_true]
                      show (dW (.str z) && decide (z ≠ "") && dN d1) = true
                      rw [w0, n1, decide_eq_true hz]; rfl
            | non => exact iteT (badE _ (Same.refl _) rfl)
            | bl b => exact iteT (badE _ (Same.refl _) rfl)
            | int b => exact iteT (badE _ (Same.refl _) rfl)
            | str b => exact iteT (badE _ (Same.refl _) rfl)
            | lst _ _ => exact iteT (badE _ (Same.refl _) rfl)
            | dk _ => exact iteT (badE _ (Same.refl _) rfl)
          · rintro σ H2 ⟨v1, rfl, s2, hi2⟩
            rw [show ds.take xs.length = ds from List.take_of_length_le (by omega)] at hi2
            rw [hi2] at q1
            simp only [Bool.true_and] at q1
            refine ⟨_, rfl, a, rfl, ⟨_, .inl (.inl (s2 _ _ ha))⟩, fun D hD => ?_⟩
            refine lc_out (walk_tup (K := K) (a := a) (xs := xs)) (fun i => .str (dKey (ds.getD i .none))) (by omega) hD (fun H3 s3 => .inl (.inl (s3 _ _ (s2 _ _ ha)))) ?_ ?_
            · rintro i x H3 H4 Qg hi s3 ⟨rfl, hx⟩ kk
              obtain ⟨p, z, y, rfl, hp, he⟩ := all_pairs hall hi2 i x hx
              refine ⟨p, _, rfl, .inl (.inl (s3 _ _ (s2 _ _ hp))), rfl, _, _, rfl, _, _, rfl, rfl, ?_⟩
              refine kk _ _ (Same.refl _) rfl fun R hR => ?_
              have := hR H4 (Same.refl _)
              rw [getD_of he] at this
              exact ⟨_, rfl, this⟩
            · intro H3 s3 hl3
              have ek : (List.range xs.length).map (fun i => V.str (dKey (ds.getD i .none))) = (ds.map dKey).map V.str := by
                rw [lx]
                apply List.ext_getElem
                · simp
                · intro n h1 h2
                  simp at h1
                  simp [h1]
              rw [ek] at hl3
              refine ⟨D, ds.map dKey, rfl, .inl (.inl hl3), fun H4 s4 => .inl (.inl (s4 _ _ hl3)), by rw [List.length_map]; omega, fun H4 s4 => ?_⟩
              exact q1 H4 ((s2.trans s3).trans s4)
        · refine iteDT (by simp; omega) ?_
          have := q1 H (Same.refl H)
          rw [decide_eq_false h2] at this
          simp only [Bool.and_false, Bool.false_and] at this
          exact this
      · refine iteDF (decide_eq_false (by omega)) ⟨_, rfl, iteT ?_⟩
        have := q1 H (Same.refl H)
        rw [decide_eq_false h1] at this
        simp only [Bool.and_false, Bool.false_and] at this
        exact this
    | non => exact iteT q0
    | bl b => exact iteT q0
    | int b => exact iteT q0
    | str b => exact iteT q0
    | lst _ _ => exact iteT q0
    | dk _ => exact iteT q0
end
end Sn

/-! ## The scanner of a line: used, defined -/
namespace Sn
open PySem PySem.Spec PyProof.Rows L2 TL
theorem pName_N {L : List Nat} {i j : Nat} {x : Str} (h : pName L i = some (x, j)) : isN x = true ∧ x.length ≤ 8 := by
  unfold pName at h
  cases e : pWord L i with
  | none => rw [e] at h; cases h
  | some r =>
    rw [e] at h
    simp only [Option.bind_some] at h
    split at h
    · cases h
      rename_i hn
      exact ⟨hn, (isN_len8 e).1⟩
    · cases h
theorem pList_map {α β : Type} (f : α → β) (p : Ps α) (e : Str) (L : List Nat) : ∀ (n : Nat) (b : Bool) (i : Nat), pList (pMap f p) e n b L i = (pList p e n b L i).map fun q => (q.1.map f, q.2) := by
  intro n
  induction n with
  | zero => intro b i; rfl
  | succ n ih =>
    intro b i
    show (if pTake e L i = true then some ([], i + e.length) else (if b = true then pMap f p L i else pAft ", " (pMap f p) L i).bind fun r => (pList (pMap f p) e n false L r.2).map fun q => (r.1 :: q.1, q.2)) =
      Option.map _ (if pTake e L i = true then some ([], i + e.length) else (if b = true then p L i else pAft ", " p L i).bind fun r => (pList p e n false L r.2).map fun q => (r.1 :: q.1, q.2))
    by_cases h : pTake e L i = true
    · rw [if_pos h, if_pos h]; rfl
    · rw [if_neg h, if_neg h]
      have hx : (if b = true then pMap f p L i else pAft ", " (pMap f p) L i) = (if b = true then p L i else pAft ", " p L i).map fun r => (f r.1, r.2) := by
        cases b with
        | true => rfl
        | false =>
          show pAft ", " (pMap f p) L i = (pAft ", " p L i).map _
          unfold pAft
          by_cases h2 : pTake ", " L i = true
          · rw [if_pos h2, if_pos h2]; rfl
          · rw [if_neg h2, if_neg h2]; rfl
      rw [hx]
      cases (if b = true then p L i else pAft ", " p L i) with
      | none => rfl
      | some r =>
        simp only [Option.map_some, Option.bind_some, ih, Option.map_map]
        congr 1
theorem pList_all {α : Type} {p : Ps α} {e : Str} {L : List Nat} (good : α → Prop) (hp : ∀ i x j, p L i = some (x, j) → i < j ∧ good x) : ∀ (n : Nat) (b : Bool) (i : Nat) (ds : List α) (j : Nat), pList p e n b L i = some (ds, j) → i + ds.length ≤ j ∧ ∀ x ∈ ds, good x := by
  intro n
  induction n with
  | zero => intro b i ds j h; cases h
  | succ n ih =>
    intro b i ds j h
    have h : (if pTake e L i = true then some ([], i + e.length) else (if b = true then p L i else pAft ", " p L i).bind fun r => (pList p e n false L r.2).map fun q => (r.1 :: q.1, q.2)) = some (ds, j) := h
    split at h
    · cases h
      exact ⟨by simp, fun x hx => by cases hx⟩
    · have hx : ∀ r, (if b = true then p L i else pAft ", " p L i) = some r → i < r.2 ∧ good r.1 := by
        intro r hr
        split at hr
        · exact hp i r.1 r.2 hr
        · unfold pAft at hr
          split at hr
          · have := hp _ r.1 r.2 hr
            exact ⟨by omega, this.2⟩
          · cases hr
      cases hr : (if b = true then p L i else pAft ", " p L i) with
      | none => rw [hr] at h; cases h
      | some r =>
        rw [hr] at h
        simp only [Option.bind_some] at h
        cases hq : pList p e n false L r.2 with
        | none => rw [hq] at h; cases h
        | some q =>
          rw [hq] at h
          cases h
          obtain ⟨h1, h2⟩ := hx r hr
          obtain ⟨h3, h4⟩ := ih false r.2 q.1 q.2 hq
          refine ⟨by rw [List.length_cons]; omega, fun x hm => ?_⟩
          rcases List.mem_cons.mp hm with h | h
          · rw [h]; exact h2
          · exact h4 x h
theorem names_all {zs : List Str} (h : ∀ z ∈ zs, isN z = true ∧ z.length ≤ 8) : (zs.map PyData.str).all dN = true ∧ ((zs.map PyData.str).map dS) = zs ∧ ∀ x ∈ zs.map PyData.str, strB x = true := by
  refine ⟨?_, ?_, ?_⟩
  · rw [List.all_eq_true]
    intro x hx
    obtain ⟨z, hz, rfl⟩ := List.mem_map.mp hx
    exact (h z hz).1
  · rw [List.map_map]
    exact List.map_id zs
  · intro x hx
    obtain ⟨z, hz, rfl⟩ := List.mem_map.mp hx
    exact decide_eq_true (by have := (h z hz).2; omega)
section
variable {P : Program} {w : World} {K : PySem.W.Frag} {mg : Str → Option Value} {base : Heap}
theorem ok_used (T : Txt K mg) : FnOk P w K mg base CX0 4 T.f_Scanner_used T.fd_Scanner_used ["self"] (spD1 T.C_Scanner pUsed) := by
  have GN : FnOk P w K mg base CX0 3 T.f_Scanner_next_name T.fd_Scanner_next_name ["self"] (spT1 T.C_Scanner pName) := ok_nname T
  have GT : FnOk P w K mg base CX0 1 T.f_Scanner_take T.fd_Scanner_take ["self", "signs"] (spTakeS T.C_Scanner) := ok_takeS T
  refine T.F_Scanner_used.ok sc_Scanner_used (fun vs H Q E h => ?_) (fun cdv A outer s H vs Q E hr h => ?_)
  · obtain ⟨a, rfl, _⟩ := h
    rfl
  · obtain ⟨a, rfl, dx, z, i, S, kS, kN⟩ := h
    refine ⟨_, (pss_cons (ps_set (i := 1) sc_Scanner_used.nd rfl (Or.inl rfl) (pe_meth0 (pv 0) T.cl_Scanner T.m_Scanner_next_name (ok_nname T) (hr.mono (by decide)) T.b_Scanner_next_name .nil pass0))
      (pss_cons (ps_if (PW.pt (pw_or (pt_cmpR op_isN (pv 1) pe_non (nomark _)) (pw_or1 (pt_not (pt_val (pe_meth (pv 0) T.cl_Scanner T.m_Scanner_take (ok_takeS T) (hr.mono (by decide)) T.b_Scanner_take .nil pass0 (pa_cons pe_str pa_nil)))))))
        (pss_one (ps_ret pe_non))
        pss_nil)
      (pss_cons (ps_if (pt_val (pe_meth (pv 0) T.cl_Scanner T.m_Scanner_take (ok_takeS T) (hr.mono (by decide)) T.b_Scanner_take .nil pass0 (pa_cons pe_str pa_nil)))
        (pss_one (ps_ret (pe_tup (pa_cons pe_str (pa_cons (pv 1) pa_nil)))))
        pss_nil)
      (pss_cons (ps_set (i := 2) sc_Scanner_used.nd rfl (Or.inl rfl) (pe_meth0 (pv 0) T.cl_Scanner T.m_Scanner_next_name (ok_nname T) (hr.mono (by decide)) T.b_Scanner_next_name .nil pass0))
      (pss_cons (ps_if (PW.pt (pw_or (pt_cmpR op_isN (pv 2) pe_non (nomark _)) (pw_or1 (pt_not (pt_val (pe_meth (pv 0) T.cl_Scanner T.m_Scanner_take (ok_takeS T) (hr.mono (by decide)) T.b_Scanner_take .nil pass0 (pa_cons pe_str pa_nil)))))))
        (pss_one (ps_ret (pe_ifExp (pt_cmpR op_isN (pv 2) pe_non (nomark _)) pe_non (pe_tup (pa_cons pe_str (pa_cons (pv 2) (pa_cons (pv 1) (pa_cons (pv 2) pa_nil))))))))
        pss_nil)
      (pss_cons (ps_set (i := 3) sc_Scanner_used.nd rfl (Or.inl rfl) (pe_meth0 (pv 0) T.cl_Scanner T.m_Scanner_next_name (ok_nname T) (hr.mono (by decide)) T.b_Scanner_next_name .nil pass0))
      (pss_one (ps_ret (pe_ifExp (PW.pt (pw_or (pt_cmpR op_isN (pv 3) pe_non (nomark _)) (pw_or1 (pt_cmpR op_eq (pv 3) (pv 2) (nomark _))))) pe_non (pe_tup (pa_cons pe_str (pa_cons (pv 3) (pa_cons (pv 1) (pa_cons (pv 2) pa_nil)))))))))))))), ?_⟩
    have n1 : ("*" : Str).length = 1 := by decide +kernel
    have n4 : (" as " : Str).length = 4 := by decide +kernel
    refine ⟨_, rfl, a, dx, _, rfl, S.at_, rfl, a, rfl, dx, z, i, S, fun x j e1 H1 s1 S1 => ?_, fun e1 j H1 s1 S1 => ?_⟩
    · refine ⟨_, rfl, rfl, _, rfl, iteF ?_⟩
      refine ⟨_, rfl, a, dx, _, rfl, S1.at_, rfl, a, dx, z, ".", j, rfl, S1, by decide +kernel, fun e2 H2 s2 S2 => ⟨_, rfl, iteF ?_⟩, fun e2 => ⟨_, rfl, iteT ?_⟩⟩
      · have ec : pUsed (tl z) i = if pTake "*" (tl z) (j + (".": Str).length) = true then some (.tuple [.str "star", .str x], j + (".": Str).length + 1)
          else (pName (tl z) (j + (".": Str).length)).bind fun q => if pTake " as " (tl z) q.2 = true then (pName (tl z) (q.2 + 4)).bind fun t => if t.1 = q.1 then none else some (.tuple [.str "use", .str t.1, .str x, .str q.1], t.2)
            else some (.tuple [.str "use", .str q.1, .str x, .str q.1], q.2) := by
          unfold pUsed pBef
          rw [e1]
          simp [e2]
        generalize j + (".": Str).length = k2 at S2 ec
        refine ⟨_, rfl, a, dx, _, rfl, S2.at_, rfl, a, dx, z, "*", k2, rfl, S2, by omega, fun e3 H3 s3 S3 => ⟨_, rfl, iteT ?_⟩, fun e3 => ⟨_, rfl, iteF ?_⟩⟩
        · rw [n1] at S3
          refine ⟨_, rfl, (by show 2 ≤ sizeLine; decide), fun p hp => ?_⟩
          have sp := same_new (o := .tup [.str "star", .str x]) hp
          exact kS _ _ (by rw [ec, if_pos e3]) _ _ (((s1.trans s2).trans s3).trans (SX.same sp)) (S3.same sp) (St1.tup hp (.cons (.str _) (.cons (.str _) .nil))) (fun z => nomatch z)
        · rw [if_neg (by rw [e3]; decide)] at ec
          refine ⟨_, rfl, a, dx, _, rfl, S2.at_, rfl, a, rfl, dx, z, k2, S2, fun y j3 e4 H3 s3 S3 => ?_, fun e4 j3 H3 s3 S3 => ?_⟩
          · rw [e4] at ec
            simp only [Option.bind_some] at ec
            refine ⟨_, rfl, rfl, _, rfl, iteF ?_⟩
            refine ⟨_, rfl, a, dx, _, rfl, S3.at_, rfl, a, dx, z, " as ", j3, rfl, S3, by omega, fun e5 H4 s4 S4 => ⟨_, rfl, iteF ?_⟩, fun e5 => ⟨_, rfl, iteT ?_⟩⟩
            · rw [n4] at S4
              rw [if_pos e5] at ec
              refine ⟨_, rfl, a, dx, _, rfl, S4.at_, rfl, a, rfl, dx, z, _, S4, fun u j4 e6 H5 s5 S5 => ?_, fun e6 j4 H5 s5 S5 => ?_⟩
              · rw [e6] at ec
                simp only [Option.bind_some] at ec
                refine ⟨_, rfl, rfl, _, rfl, iteF ?_⟩
                refine ⟨_, rfl, _, rfl, rfl, _, rfl, ?_⟩
                by_cases hu : u = y
                · refine iteDT (by rw [hu]; exact decide_eq_true rfl) ?_
                  exact kN (by rw [ec, if_pos hu]) j4 H5 ((((s1.trans s2).trans s3).trans s4).trans s5) S5
                · refine iteDF (decide_eq_false fun q => hu (by injection q)) ?_
                  refine ⟨_, rfl, _, rfl, _, rfl, (by show 4 ≤ sizeLine; decide), fun p hp => ?_⟩
                  have sp := same_new (o := .tup [.str "use", .str u, .str x, .str y]) hp
                  exact kS _ _ (by rw [ec, if_neg hu]) _ _ (((((s1.trans s2).trans s3).trans s4).trans s5).trans (SX.same sp)) (S5.same sp) (St1.tup hp (.cons (.str _) (.cons (.str _) (.cons (.str _) (.cons (.str _) .nil))))) (fun z => nomatch z)
              · refine ⟨_, rfl, rfl, _, rfl, iteT (iteT ?_)⟩
                exact kN (by rw [ec, e6]; rfl) j4 H5 ((((s1.trans s2).trans s3).trans s4).trans s5) S5
            · rw [if_neg (by rw [e5]; decide)] at ec
              refine ⟨_, rfl, rfl, _, rfl, iteF ?_⟩
              refine ⟨_, rfl, _, rfl, _, rfl, (by show 4 ≤ sizeLine; decide), fun p hp => ?_⟩
              have sp := same_new (o := .tup [.str "use", .str y, .str x, .str y]) hp
              exact kS _ _ ec _ _ (((s1.trans s2).trans s3).trans (SX.same sp)) (S3.same sp) (St1.tup hp (.cons (.str _) (.cons (.str _) (.cons (.str _) (.cons (.str _) .nil))))) (fun z => nomatch z)
          · refine ⟨_, rfl, rfl, _, rfl, iteT (iteT ?_)⟩
            refine ⟨_, rfl, rfl, _, rfl, iteT ?_⟩
            exact kN (by rw [ec, e4]; rfl) j3 H3 ((s1.trans s2).trans s3) S3
      · refine kN ?_ j H1 s1 S1
        unfold pUsed pBef
        rw [e1]
        simp [e2]
    · refine ⟨_, rfl, rfl, _, rfl, iteT (iteT ?_)⟩
      refine kN ?_ j H1 s1 S1
      unfold pUsed pBef
      rw [e1]; rfl
theorem ok_defined (T : Txt K mg) : FnOk P w K mg base CX0 7 T.f_Scanner_defined T.fd_Scanner_defined ["self"] (spD1 T.C_Scanner pDefined) := by
  have GN : FnOk P w K mg base CX0 3 T.f_Scanner_next_name T.fd_Scanner_next_name ["self"] (spT1 T.C_Scanner pName) := ok_nname T
  have GT : FnOk P w K mg base CX0 1 T.f_Scanner_take T.fd_Scanner_take ["self", "signs"] (spTakeS T.C_Scanner) := ok_takeS T
  have GL : FnOk P w K mg base CX0 6 T.f_Scanner_listed T.fd_Scanner_listed ["self", "by_name", "end"] (spLst T.C_Scanner) := ok_listed T
  have GM : FnOk P w K mg base CX0 3 T.f_are_names T.fd_are_names ["value", "least", "most"] (spNames K) := ok_names T
  obtain ⟨t1, g_MOST_GIVEN⟩ := T.c_MOST_GIVEN
  refine T.F_Scanner_defined.ok sc_Scanner_defined (fun vs H Q E h => ?_) (fun cdv A outer s H vs Q E hr h => ?_)
  · obtain ⟨a, rfl, _⟩ := h
    rfl
  · obtain ⟨a, rfl, dx, z, i, S, kS, kN⟩ := h
    refine ⟨_, (pss_cons (ps_set (i := 1) sc_Scanner_defined.nd rfl (Or.inl rfl) (pe_meth0 (pv 0) T.cl_Scanner T.m_Scanner_next_name (ok_nname T) (hr.mono (by decide)) T.b_Scanner_next_name .nil pass0))
      (pss_cons (ps_set (i := 2) sc_Scanner_defined.nd rfl (Or.inl rfl) (pe_ifExp (PW.pt (pw_and (pt_cmpR op_notN (pv 1) pe_non (nomark _)) (pw_and1 (pt_val (pe_meth (pv 0) T.cl_Scanner T.m_Scanner_take (ok_takeS T) (hr.mono (by decide)) T.b_Scanner_take .nil pass0 (pa_cons pe_str pa_nil)))))) (pe_meth (pv 0) T.cl_Scanner T.m_Scanner_listed (ok_listed T) (hr.mono (by decide)) T.b_Scanner_listed .nil pass0 (pa_cons pe_bl (pa_cons pe_str pa_nil))) pe_non))
      (pss_one (ps_ret (pe_ifExp (pt_val (pe_call (ok_names T) (hr.mono (by decide)) rfl T.g_are_names T.F_are_names.kp T.b_are_names .nil pass0 (pa_cons (pv 2) (pa_cons pe_int (pa_cons (pe_glob (v := .int 3) rfl g_MOST_GIVEN ⟨_, rfl⟩) pa_nil))))) (pe_tup (pa_cons pe_str (pa_cons (pv 1) (pa_cons (pv 2) pa_nil)))) pe_non))))), ?_⟩
    refine ⟨_, rfl, a, dx, _, rfl, S.at_, rfl, a, rfl, dx, z, i, S, fun x j e1 H1 s1 S1 => ?_, fun e1 j H1 s1 S1 => ?_⟩
    · refine ⟨_, rfl, rfl, _, rfl, iteT ?_⟩
      refine ⟨_, rfl, a, dx, _, rfl, S1.at_, rfl, a, dx, z, "(", j, rfl, S1, by decide +kernel, fun e2 H2 s2 S2 => ⟨_, rfl, iteT ?_⟩, fun e2 => ⟨_, rfl, iteF ?_⟩⟩
      · refine ⟨_, rfl, a, dx, _, rfl, S2.at_, rfl, a, true, "):", rfl, by decide +kernel, by decide +kernel, dx, z, _, S2, fun y j2 e3 t H3 s3 S3 ht nt => ?_, fun e3 j2 H3 s3 S3 => ?_⟩
        · obtain ⟨ds, e4, rfl⟩ := pMap_some e3
          have e4' : pList (pMap PyData.str pName) "):" ((tl z).length + 1) true (tl z) (j + ("(" : Str).length) = some (ds, j2) := e4
          rw [pList_map] at e4'
          cases e5 : pList pName "):" ((tl z).length + 1) true (tl z) (j + ("(" : Str).length) with
          | none => rw [e5] at e4'; cases e4'
          | some q =>
            rw [e5] at e4'
            obtain ⟨zs, j3⟩ := q
            simp only [Option.map_some, Option.some.injEq, Prod.mk.injEq] at e4'
            obtain ⟨rfl, rfl⟩ := e4'
            obtain ⟨g1, g2⟩ := pList_all (fun x => isN x = true ∧ x.length ≤ 8) (fun i x j h => ⟨pName_gt h, pName_N h⟩) _ _ _ _ _ e5
            obtain ⟨n1, n2, n3⟩ := names_all g2
            have lz := S3.le
            have ln := S3.len
            have ec : pDefined (tl z) i = if zs.length ≤ 3 ∧ zs.Nodup then some (.tuple [.str "def", .str x, .tuple (zs.map PyData.str)], j3) else none := by
              unfold pDefined
              rw [e1]
              simp only [Option.bind_some]
              unfold pAft pListed
              rw [if_pos e2, e5]; rfl
            refine ⟨_, rfl, _, _, 0, 3, rfl, ht _ .refl, fun ds e => ?_, fun H4 s4 => ⟨_, rfl, ?_⟩⟩
            · injection e with e
              subst e
              exact ⟨by rw [List.length_map]; omega, n3⟩
            · have en : dNames 0 3 (.tuple (zs.map PyData.str)) = decide (zs.length ≤ 3 ∧ zs.Nodup) := by
                show (decide _ && decide _ && (_ && decide _)) = _
                rw [n1, n2, List.length_map, decide_eq_true (show (0 : Int) ≤ (zs.length : Int) by omega), Bool.true_and, Bool.true_and, Bool.decide_and, decide_eq_decide.mpr (show ((zs.length : Int) ≤ 3) ↔ zs.length ≤ 3 by omega)]
              have S03 := ((s1.trans s2).trans s3).trans (SX.same s4)
              by_cases h3 : zs.length ≤ 3 ∧ zs.Nodup
              · refine iteDT (by rw [en]; exact decide_eq_true h3) ?_
                refine ⟨_, rfl, _, rfl, (by show 3 ≤ sizeLine; decide), fun p hp => ?_⟩
                have sp := same_new (o := .tup [.str "def", .str x, t]) hp
                exact kS _ _ (by rw [ec, if_pos h3]) _ _ (S03.trans (SX.same sp)) ((S3.same s4).same sp) (St1.tup hp (.cons (.str _) (.cons (.str _) (.cons (ht.mv (MvT.same s4)) .nil)))) (fun z => nomatch z)
              · refine iteDF (by rw [en]; exact decide_eq_false h3) ?_
                exact kN (by rw [ec, if_neg h3]) j3 _ S03 (S3.same s4)
        · have e4' : pList (pMap PyData.str pName) "):" ((tl z).length + 1) true (tl z) (j + ("(" : Str).length) = none := by
            unfold pMap at e3
            exact Option.map_eq_none_iff.mp e3
          rw [pList_map] at e4'
          have e5 := Option.map_eq_none_iff.mp e4'
          refine ⟨_, rfl, .non, .none, 0, 3, rfl, .non, (fun ds e => nomatch e), fun H4 s4 => ⟨_, rfl, iteF ?_⟩⟩
          refine kN ?_ j2 H4 (((s1.trans s2).trans s3).trans (SX.same s4)) (S3.same s4)
          unfold pDefined
          rw [e1]
          simp only [Option.bind_some]
          unfold pAft pListed
          rw [if_pos e2, e5]; rfl
      · refine ⟨_, rfl, .non, .none, 0, 3, rfl, .non, (fun ds e => nomatch e), fun H4 s4 => ⟨_, rfl, iteF ?_⟩⟩
        refine kN ?_ j H4 (s1.trans (SX.same s4)) (S1.same s4)
        unfold pDefined
        rw [e1]
        simp only [Option.bind_some]
        unfold pAft
        rw [if_neg (by rw [e2]; decide)]; rfl
    · refine ⟨_, rfl, rfl, _, rfl, iteF (iteF ?_)⟩
      refine ⟨_, rfl, .non, .none, 0, 3, rfl, .non, (fun ds e => nomatch e), fun H4 s4 => ⟨_, rfl, iteF ?_⟩⟩
      refine kN ?_ j H4 (s1.trans (SX.same s4)) (S1.same s4)
      unfold pDefined
      rw [e1]; rfl
end
end Sn

/-! ## The scanner of a line: offered, keyed -/
namespace Sn
open PySem PySem.Spec PyProof.Rows L2 TL
/-- behind the names zs, at j -/
def nMore (f : Nat) (zs : List Str) (L : List Nat) (j : Nat) : Option (List Str × Nat) := if pTake " " L j = true then (pNames f L (j + 1)).map fun q => (zs ++ q.1, q.2) else some (zs, j)
theorem pNames_more (f : Nat) (L : List Nat) (i : Nat) : pNames (f + 1) L i = (pName L i).bind fun r => nMore f [r.1] L r.2 := rfl
theorem nMore_go {f : Nat} {zs : List Str} {L : List Nat} {j : Nat} (h : pTake " " L j = true) : nMore (f + 1) zs L j = (pName L (j + 1)).bind fun r => nMore f (zs ++ [r.1]) L r.2 := by
  unfold nMore
  rw [if_pos h, pNames_more]
  cases e : pName L (j + 1) with
  | none => rfl
  | some r =>
    show Option.map _ (nMore f [r.1] L r.2) = nMore f (zs ++ [r.1]) L r.2
    unfold nMore
    split
    · rw [Option.map_map]
      congr 1
      funext q
      simp
    · rfl
theorem nMore_stop {f : Nat} {zs : List Str} {L : List Nat} {j : Nat} (h : pTake " " L j = false) : nMore f zs L j = some (zs, j) := by
  unfold nMore
  rw [if_neg (by rw [h]; decide)]
/-- the names so far, each a text or None -/
def NmV (L : List Nat) (full : Option (List Str × Nat)) (n : Nat) (xs : List V) (j : Nat) : Prop := ∃ ds : List PyData, (∀ H', DhAll H' xs ds) ∧ (∀ d ∈ ds, strB d = true) ∧
  ((∃ zs f, ds = zs.map PyData.str ∧ (∀ z ∈ zs, isN z = true ∧ z.length ≤ 8) ∧ full = nMore f zs L j ∧ f + zs.length = n) ∨ (ds.all dN = false ∧ full = none))
theorem dhs_app {xs : List V} {ds : List PyData} {x : V} {d : PyData} (h : ∀ H', DhAll H' xs ds) (g : ∀ H', Dh H' x d) : ∀ H', DhAll H' (xs ++ [x]) (ds ++ [d]) := fun H' => (h H').app (.cons (g H') .nil)
theorem NmV.good {L : List Nat} {full : Option (List Str × Nat)} {n : Nat} {xs : List V} {j j2 : Nat} {x : Str} (h : NmV L full n xs j) (ht : pTake " " L j = true) (hn : xs.length < n) (e : pName L (j + 1) = some (x, j2)) : NmV L full n (xs ++ [.str x]) j2 := by
  obtain ⟨ds, h1, h2, way⟩ := h
  obtain ⟨g1, g2⟩ := pName_N e
  refine ⟨ds ++ [.str x], dhs_app h1 fun H' => .str x, fun d hd => ?_, ?_⟩
  · rcases List.mem_append.mp hd with h | h
    · exact h2 d h
    · rw [List.mem_singleton.mp h]
      exact decide_eq_true (by omega)
  · rcases way with ⟨zs, f, rfl, h3, h4, h5⟩ | ⟨h3, h4⟩
    · have lx : xs.length = zs.length := by rw [(h1 fun _ => none).len, List.length_map]
      obtain ⟨f, rfl⟩ : ∃ g, f = g + 1 := ⟨f - 1, by omega⟩
      refine .inl ⟨zs ++ [x], f, by rw [List.map_append]; rfl, fun z hz => ?_, ?_, by rw [List.length_append]; show f + (zs.length + 1) = n; omega⟩
      · rcases List.mem_append.mp hz with h | h
        · exact h3 z h
        · rw [List.mem_singleton.mp h]
          exact ⟨g1, g2⟩
      · rw [h4, nMore_go ht, e]; rfl
    · exact .inr ⟨by rw [List.all_append, h3]; rfl, h4⟩
theorem NmV.bad {L : List Nat} {full : Option (List Str × Nat)} {n : Nat} {xs : List V} {j j2 : Nat} (h : NmV L full n xs j) (ht : pTake " " L j = true) (hn : xs.length < n) (e : pName L (j + 1) = none) : NmV L full n (xs ++ [.non]) j2 := by
  obtain ⟨ds, h1, h2, way⟩ := h
  refine ⟨ds ++ [.none], dhs_app h1 fun H' => .non, fun d hd => ?_, .inr ⟨by rw [List.all_append]; show (_ && false) = false; rw [Bool.and_false], ?_⟩⟩
  · rcases List.mem_append.mp hd with h | h
    · exact h2 d h
    · rw [List.mem_singleton.mp h]; rfl
  · rcases way with ⟨zs, f, rfl, h3, h4, h5⟩ | ⟨h3, h4⟩
    · have lx : xs.length = zs.length := by rw [(h1 fun _ => none).len, List.length_map]
      obtain ⟨f, rfl⟩ : ∃ g, f = g + 1 := ⟨f - 1, by omega⟩
      rw [h4, nMore_go ht, e]; rfl
    · exact h4
/-- the names so far: at q, the spot j -/
def OfI (C a dx : Addr) (z : Str) (i : Nat) (H : Hp) (m : Nat) (σ : L2.St) (H1 : Hp) : Prop := ∃ (q : Addr) (xs : List V) (j : Nat), m = z.length - j ∧ σ = [some (.ref a), some (.ref q)] ∧ SX a H H1 ∧ H q = none ∧ q ≠ a ∧ Sc C H1 a dx z j ∧ H1 q = some (.lst xs) ∧ xs.length ≤ j ∧ 0 < xs.length ∧
  NmV (tl z) (pNames (z.length + 1) (tl z) i) (z.length + 1) xs j
section
variable {P : Program} {w : World} {K : PySem.W.Frag} {mg : Str → Option Value} {base : Heap}
/-- .. behind some signs -/
def spD1P (C : Addr) (p : Ps PyData) : Sp := fun vs H Q _ => ∃ a, vs = [.ref a] ∧ ∃ (dx : Addr) (z : Str) (i : Nat), 0 < i ∧ Sc C H a dx z i ∧
  (∀ x j, p (tl z) i = some (x, j) → ∀ v H', SX a H H' → Sc C H' a dx z j → St1 H' v x → v ≠ .non → Q v H') ∧ (p (tl z) i = none → ∀ j H', SX a H H' → Sc C H' a dx z j → Q .non H')
theorem ok_offered (T : Txt K mg) : FnOk P w K mg base CX0 4 T.f_Scanner_offered T.fd_Scanner_offered ["self"] (spD1P T.C_Scanner pOffered) := by
  have GN : FnOk P w K mg base CX0 3 T.f_Scanner_next_name T.fd_Scanner_next_name ["self"] (spT1G T.C_Scanner pName) := ok_nnameG T
  have GT : FnOk P w K mg base CX0 1 T.f_Scanner_take T.fd_Scanner_take ["self", "signs"] (spTakeS T.C_Scanner) := ok_takeS T
  have GM : FnOk P w K mg base CX0 3 T.f_are_names T.fd_are_names ["value", "least", "most"] (spNames K) := ok_names T
  obtain ⟨t1, g_MOST_PAIRS⟩ := T.c_MOST_PAIRS
  refine T.F_Scanner_offered.ok sc_Scanner_offered (fun vs H Q E h => ?_) (fun cdv A outer s H vs Q E hr h => ?_)
  · obtain ⟨a, rfl, _⟩ := h
    rfl
  · obtain ⟨a, rfl, dx, z, i, i0, S, kS, kN⟩ := h
    refine ⟨_, (C8.pss_cut (ps_set (i := 1) sc_Scanner_offered.nd rfl (Or.inl rfl) (pe_lst (pa_cons (pe_meth0 (pv 0) T.cl_Scanner T.m_Scanner_next_name (ok_nnameG T) (hr.mono (by decide)) T.b_Scanner_next_name .nil pass0) pa_nil)))
      (pss_cons (ps_while PassesOwn.never (pt_val (pe_meth (pv 0) T.cl_Scanner T.m_Scanner_take (ok_takeS T) (hr.mono (by decide)) T.b_Scanner_take .nil pass0 (pa_cons pe_str pa_nil)))
        (pss_one (ps_expr (pe_bm PySem.F.plainAttrs_list PySem.F.slot_list_append PySem.F.type_list_append mt_append (pv 1) (pa_cons (pe_meth0 (pv 0) T.cl_Scanner T.m_Scanner_next_name (ok_nnameG T) (hr.mono (by decide)) T.b_Scanner_next_name .nil pass0) pa_nil)))))
      (pss_one (ps_ret (pe_ifExp (pt_val (pe_call (ok_names T) (hr.mono (by decide)) rfl T.g_are_names T.F_are_names.kp T.b_are_names .nil pass0 (pa_cons (pe_callTy call_tuple_of (by rfl) T.z_tuple (by decide +kernel) (pa_cons (pv 1) pa_nil)) (pa_cons pe_int (pa_cons (pe_glob (v := .int 12) rfl g_MOST_PAIRS ⟨_, rfl⟩) pa_nil))))) (pe_tup (pa_cons pe_str (pa_cons (pe_callTy call_tuple_of (by rfl) T.z_tuple (by decide +kernel) (pa_cons (pv 1) pa_nil)) pa_nil))) pe_non))))), ?_⟩
    have hl : (tl z).length = z.length := (len_tl z).symm
    have l1 : (" " : Str).length = 1 := by decide +kernel
    have nlen := S.len
    refine ⟨fun σ H1 => ∃ m, OfI T.C_Scanner a dx z i H m σ H1, ?_, ?_⟩
    · refine ⟨_, rfl, a, dx, _, rfl, S.at_, rfl, a, rfl, dx, z, i, S, fun x j e H1 s1 S1 => ?_, fun e j H1 hj s1 S1 => ?_⟩
      · obtain ⟨g1, g2⟩ := pName_N e
        have gt := pName_gt e
        refine ⟨(by show 1 ≤ sizeLine; decide), fun q hq => ?_⟩
        have sq := same_new (o := .lst [.str x]) hq
        refine ⟨_, q, [.str x], j, rfl, rfl, s1.trans (SX.same sq), SX.none s1 S1.at_ hq, (ne_of_none S1.at_ hq).symm, S1.same sq, upd_same, by show 1 ≤ j; omega, Nat.one_pos, [.str x], fun H' => .cons (.str x) .nil, fun d hd => ?_, .inl ⟨[x], z.length, rfl, fun y hy => ?_, ?_, rfl⟩⟩
        · rw [List.mem_singleton.mp hd]
          exact decide_eq_true (by omega)
        · rw [List.mem_singleton.mp hy]
          exact ⟨g1, g2⟩
        · rw [pNames_more, e]; rfl
      · refine ⟨(by show 1 ≤ sizeLine; decide), fun q hq => ?_⟩
        have sq := same_new (o := .lst [.non]) hq
        refine ⟨_, q, [.non], j, rfl, rfl, s1.trans (SX.same sq), SX.none s1 S1.at_ hq, (ne_of_none S1.at_ hq).symm, S1.same sq, upd_same, by show 1 ≤ j; omega, Nat.one_pos, [.none], fun H' => .cons .non .nil, fun d hd => ?_, .inr ⟨rfl, ?_⟩⟩
        · rw [List.mem_singleton.mp hd]; rfl
        · rw [pNames_more, e]; rfl
    · rintro σ0 H0 p0
      refine ⟨OfI T.C_Scanner a dx z i H, p0, ?_⟩
      rintro m σ H1 ⟨q, xs, j, rfl, rfl, s1, hq0, nqa, S1, hq, hxj, hx0, nm⟩
      have le1 := S1.le
      refine ⟨_, rfl, a, dx, _, rfl, S1.at_, rfl, a, dx, z, " ", j, rfl, S1, by omega, fun e3 H2 s2 S2 => ⟨_, rfl, iteT ?_⟩, fun e3 => ⟨_, rfl, iteF ?_⟩⟩
      · rw [l1] at S2
        have le2 := S2.le
        have hq2 := s2 _ _ nqa hq
        refine ⟨fun σ' H' => ∃ m', m' < z.length - j ∧ OfI T.C_Scanner a dx z i H m' σ' H', fun σ' H' h => h, ?_⟩
        have step : ∀ (v : V) (j3 : Nat) (H3 : Hp), j + 1 ≤ j3 → SX a H2 H3 → Sc T.C_Scanner H3 a dx z j3 → NmV (tl z) (pNames (z.length + 1) (tl z) i) (z.length + 1) (xs ++ [v]) j3 → H3 q = some (.lst xs) ∧ xs.length < sizeLine ∧ ∃ m', m' < z.length - j ∧ OfI T.C_Scanner a dx z i H m' [some (.ref a), some (.ref q)] (upd H3 q (.lst (xs ++ [v]))) := by
          intro v j3 H3 hj3 s3 S3 nm3
          have hq3 := s3 _ _ nqa hq2
          refine ⟨hq3, small1000 (by omega), z.length - j3, by omega, q, xs ++ [v], j3, rfl, rfl, fun b o nb eb => ?_, hq0, nqa, ⟨by rw [upd_ne nqa.symm]; exact S3.at_, S3.le, S3.len⟩, upd_same, by rw [List.length_append]; show xs.length + 1 ≤ j3; omega, by rw [List.length_append]; exact Nat.succ_pos _, nm3⟩
          rw [upd_ne (ne_of_none eb hq0)]
          exact s3 _ _ nb (s2 _ _ nb (s1 _ _ nb eb))
        refine ⟨_, rfl, .inl ⟨rfl, _, .inl (.inl hq2)⟩, _, rfl, a, dx, _, rfl, S2.at_, rfl, a, rfl, dx, z, j + 1, S2, fun x j3 e H3 s3 S3 => ?_, fun e j3 H3 hj3 s3 S3 => ?_⟩
        · obtain ⟨g1, g2, g3⟩ := step (.str x) j3 H3 (pName_ge e) s3 S3 (nm.good e3 (by omega) e)
          exact ⟨q, _, _, rfl, rfl, g1, g2, g3⟩
        · obtain ⟨g1, g2, g3⟩ := step .non j3 H3 hj3 s3 S3 (nm.bad e3 (by omega) e)
          exact ⟨q, _, _, rfl, rfl, g1, g2, g3⟩
      · obtain ⟨ds, h1, h2, way⟩ := nm
        have lx := (h1 H1).len
        refine ⟨_, rfl, q, _, rfl, .inl ⟨.inl (.inl hq), fun t ht => ?_⟩⟩
        have st := same_new (o := .tup xs) ht
        refine ⟨_, .tuple ds, 1, 12, rfl, .tup upd_same (h1 _), fun es e => ?_, fun H2 s2 => ⟨_, rfl, ?_⟩⟩
        · injection e with e
          subst e
          exact ⟨by omega, h2⟩
        have s12 := (SX.same (x := a) st).trans (SX.same s2)
        have S2 := (S1.same st).same s2
        have en : dNames 1 12 (.tuple ds) = (decide (1 ≤ ds.length) && decide (ds.length ≤ 12) && (ds.all dN && decide (ds.map dS).Nodup)) := by
          show (decide _ && decide _ && (_ && decide _)) = _
          rw [decide_eq_decide.mpr (show ((ds.length : Int) ≤ 12) ↔ ds.length ≤ 12 by omega), decide_eq_decide.mpr (show ((1 : Int) ≤ (ds.length : Int)) ↔ 1 ≤ ds.length by omega)]
        rcases way with ⟨zs, f, rfl, h3, h4, h5⟩ | ⟨h3, h4⟩
        · obtain ⟨n1, n2, n3⟩ := names_all h3
          rw [List.length_map] at lx
          have ec : pOffered (tl z) i = if zs.length ≤ 12 ∧ zs.Nodup then some (.tuple [.str "offer", .tuple (zs.map PyData.str)], j) else none := by
            unfold pOffered
            rw [hl, h4, nMore_stop e3]; rfl
          rw [n1, n2, List.length_map, decide_eq_true (show 1 ≤ zs.length by omega), Bool.true_and, Bool.true_and] at en
          by_cases h6 : zs.length ≤ 12 ∧ zs.Nodup
          · refine iteDT (by rw [en, decide_eq_true h6.1, decide_eq_true h6.2]; rfl) ?_
            have hq2 := s2 _ _ (st _ _ hq)
            refine ⟨_, rfl, q, _, rfl, .inl ⟨.inl (.inl hq2), fun t2 ht2 => ?_⟩⟩
            refine ⟨(by show 2 ≤ sizeLine; decide), fun p hp => ?_⟩
            have st2 := same_new (o := .tup xs) ht2
            have sp := same_new (o := .tup [.str "offer", .ref t2]) hp
            exact kS _ _ (by rw [ec, if_pos h6]) _ _ (((s1.trans s12).trans (SX.same st2)).trans (SX.same sp)) ((S2.same st2).same sp) (St1.tup hp (.cons (.str _) (.cons (St1.tup ht2 (.all h1)) .nil))) (fun z => nomatch z)
          · refine iteDF ?_ (kN (by rw [ec, if_neg h6]) j H2 (s1.trans s12) S2)
            rw [en, ← Bool.decide_and]
            exact decide_eq_false h6
        · rw [h3, Bool.false_and, Bool.and_false] at en
          rw [en]
          refine iteF (kN ?_ j H2 (s1.trans s12) S2)
          unfold pOffered
          rw [hl, h4]; rfl
theorem pWord_W {L : List Nat} {i j : Nat} {x : Str} (h : pWord L i = some (x, j)) : isW x = true := by
  have l8 := (isN_len8 h).1
  unfold pWord at h
  split at h
  · simp only [Option.some.injEq, Prod.mk.injEq] at h
    obtain ⟨rfl, rfl⟩ := h
    unfold isW
    rw [decide_eq_true l8, Bool.true_and]
    rw [List.all_eq_true]
    intro c hc
    exact List.all_eq_true.mp (List.all_takeWhile (p := fun c => decide (c ∈ tl sgnS)) (l := L.drop i)) c hc
  · cases h
/-- behind the pairs ps, at j -/
def kMore (f : Nat) (ps : List (Str × Str)) (L : List Nat) (j : Nat) : Option (List (Str × Str) × Nat) := (pPairs f L j).map fun t => (ps ++ t.1, t.2)
theorem kMore_go {f : Nat} {ps : List (Str × Str)} {L : List Nat} {j : Nat} (h : pTake " " L j = true) : kMore (f + 1) ps L j = (pBef pWord "=" L (j + 1)).bind fun r => (pName L r.2).bind fun q => kMore f (ps ++ [(r.1, q.1)]) L q.2 := by
  unfold kMore
  show Option.map _ (if pTake " " L j = true then (pBef pWord "=" L (j + 1)).bind fun r => (pName L r.2).bind fun q => (pPairs f L q.2).map fun t => ((r.1, q.1) :: t.1, t.2) else some ([], j)) = _
  rw [if_pos h]
  cases pBef pWord "=" L (j + 1) with
  | none => rfl
  | some r =>
    simp only [Option.bind_some]
    cases pName L r.2 with
    | none => rfl
    | some q =>
      simp only [Option.bind_some, Option.map_map]
      congr 1
      funext t
      simp
theorem kMore_stop {f : Nat} {ps : List (Str × Str)} {L : List Nat} {j : Nat} (h : pTake " " L j = false) : kMore (f + 1) ps L j = some (ps, j) := by
  unfold kMore
  show Option.map _ (if pTake " " L j = true then (pBef pWord "=" L (j + 1)).bind fun r => (pName L r.2).bind fun q => (pPairs f L q.2).map fun t => ((r.1, q.1) :: t.1, t.2) else some ([], j)) = _
  rw [if_neg (by rw [h]; decide)]
  simp
def toD (x : Str × Str) : PyData := .tuple [.str x.1, .str x.2]
/-- the pairs so far -/
def PrV (L : List Nat) (full : Option (List (Str × Str) × Nat)) (n : Nat) (ds : List PyData) (j : Nat) : Prop := (∀ d ∈ ds, pairB d = true) ∧
  ((∃ ps f, ds = ps.map toD ∧ (∀ x ∈ ps, isW x.1 = true ∧ isN x.2 = true) ∧ full = kMore f ps L j ∧ f + ps.length = n) ∨ (ds.all dPair = false ∧ full = none))
theorem PrV.good {L : List Nat} {full : Option (List (Str × Str) × Nat)} {n : Nat} {ds : List PyData} {j j2 j3 : Nat} {x y : Str} (h : PrV L full n ds j) (ht : pTake " " L j = true) (hn : ds.length < n) (e1 : pWord L (j + 1) = some (x, j2)) (e2 : pTake "=" L j2 = true)
    (e3 : pName L (j2 + ("=" : Str).length) = some (y, j3)) : PrV L full n (ds ++ [toD (x, y)]) j3 := by
  obtain ⟨h2, way⟩ := h
  refine ⟨fun d hd => ?_, ?_⟩
  · rcases List.mem_append.mp hd with h | h
    · exact h2 d h
    · rw [List.mem_singleton.mp h]
      show (decide _ && (decide _ && true)) = true
      have := (isN_len8 e1).1
      have := (pName_N e3).2
      rw [decide_eq_true (show x.length ≤ 1000 by omega), decide_eq_true (show y.length ≤ 1000 by omega)]; rfl
  · rcases way with ⟨ps, f, rfl, h3, h4, h5⟩ | ⟨h3, h4⟩
    · rw [List.length_map] at hn
      obtain ⟨f, rfl⟩ : ∃ g, f = g + 1 := ⟨f - 1, by omega⟩
      refine .inl ⟨ps ++ [(x, y)], f, by rw [List.map_append]; rfl, fun z hz => ?_, ?_, by rw [List.length_append]; show f + (ps.length + 1) = n; omega⟩
      · rcases List.mem_append.mp hz with h | h
        · exact h3 z h
        · rw [List.mem_singleton.mp h]
          exact ⟨pWord_W e1, (pName_N e3).1⟩
      · rw [h4, kMore_go ht]
        unfold pBef
        rw [e1]
        simp only [Option.bind_some]
        rw [if_pos e2]
        simp only [Option.bind_some]
        rw [e3]; rfl
    · exact .inr ⟨by rw [List.all_append, h3]; rfl, h4⟩
theorem PrV.bad {L : List Nat} {full : Option (List (Str × Str) × Nat)} {n : Nat} {ds : List PyData} {j j2 : Nat} {d : PyData} (h : PrV L full n ds j) (ht : pTake " " L j = true) (hn : ds.length < n) (hb : pairB d = true) (hd : dPair d = false)
    (e : ((pBef pWord "=" L (j + 1)).bind fun r => pName L r.2) = none) : PrV L full n (ds ++ [d]) j2 := by
  obtain ⟨h2, way⟩ := h
  refine ⟨fun d' hd' => ?_, .inr ⟨?_, ?_⟩⟩
  · rcases List.mem_append.mp hd' with h | h
    · exact h2 d' h
    · rw [List.mem_singleton.mp h]; exact hb
  · rw [List.all_append, List.all_cons, hd, Bool.false_and, Bool.and_false]
  · rcases way with ⟨ps, f, rfl, h3, h4, h5⟩ | ⟨h3, h4⟩
    · rw [List.length_map] at hn
      obtain ⟨f, rfl⟩ : ∃ g, f = g + 1 := ⟨f - 1, by omega⟩
      rw [h4, kMore_go ht]
      cases e2 : pBef pWord "=" L (j + 1) with
      | none => rfl
      | some r =>
        rw [e2] at e
        simp only [Option.bind_some] at e ⊢
        rw [e]; rfl
    · exact h4
def KyI (C a dx : Addr) (z : Str) (i : Nat) (x : Str) (H : Hp) (m : Nat) (σ : L2.St) (H1 : Hp) : Prop := ∃ (q : Addr) (xs : List V) (ds : List PyData) (j : Nat) (k : Option V), m = z.length - j ∧ σ = [some (.ref a), some (.str x), some (.ref q), k] ∧ SX a H H1 ∧ H q = none ∧ q ≠ a ∧ Sc C H1 a dx z j ∧ H1 q = some (.lst xs) ∧ xs.length ≤ j ∧ StA H1 xs ds ∧
  PrV (tl z) (pPairs (z.length + 1) (tl z) i) (z.length + 1) ds j
theorem ok_keyed (T : Txt K mg) : FnOk P w K mg base CX0 4 T.f_Scanner_keyed T.fd_Scanner_keyed ["self"] (spD1 T.C_Scanner pKeyed) := by
  have GN : FnOk P w K mg base CX0 3 T.f_Scanner_next_name T.fd_Scanner_next_name ["self"] (spT1G T.C_Scanner pName) := ok_nnameG T
  have GW : FnOk P w K mg base CX0 2 T.f_Scanner_word T.fd_Scanner_word ["self"] (spWordG T.C_Scanner) := ok_wordG T
  have GT : FnOk P w K mg base CX0 1 T.f_Scanner_take T.fd_Scanner_take ["self", "signs"] (spTakeS T.C_Scanner) := ok_takeS T
  have GM : FnOk P w K mg base CX0 3 T.f_are_pairs T.fd_are_pairs ["value"] (spPairs K) := ok_pairs T
  refine T.F_Scanner_keyed.ok sc_Scanner_keyed (fun vs H Q E h => ?_) (fun cdv A outer s H vs Q E hr h => ?_)
  · obtain ⟨a, rfl, _⟩ := h
    rfl
  · obtain ⟨a, rfl, dx, z, i, S, kS, kN⟩ := h
    refine ⟨_, (pss_cons (ps_par (i := 1) (j := 2) (by rfl) sc_Scanner_keyed.nd rfl rfl (by decide) rfl rfl (pa_cons (pe_meth0 (pv 0) T.cl_Scanner T.m_Scanner_next_name (ok_nnameG T) (hr.mono (by decide)) T.b_Scanner_next_name .nil pass0) (pa_cons (pe_lst pa_nil) pa_nil)) (by rfl))
      (pss_cons (ps_if (PW.pt (pw_or (pt_cmpR op_isN (pv 1) pe_non (nomark _)) (pw_or1 (pt_not (pt_val (pe_meth (pv 0) T.cl_Scanner T.m_Scanner_take (ok_takeS T) (hr.mono (by decide)) T.b_Scanner_take .nil pass0 (pa_cons pe_str pa_nil)))))))
        (pss_one (ps_ret pe_non))
        pss_nil)
      (pss_cons (ps_while PassesOwn.never (pt_val (pe_meth (pv 0) T.cl_Scanner T.m_Scanner_take (ok_takeS T) (hr.mono (by decide)) T.b_Scanner_take .nil pass0 (pa_cons pe_str pa_nil)))
        (pss_cons (ps_set (i := 3) sc_Scanner_keyed.nd rfl (Or.inl rfl) (pe_meth0 (pv 0) T.cl_Scanner T.m_Scanner_word (ok_wordG T) (hr.mono (by decide)) T.b_Scanner_word .nil pass0))
      (pss_one (ps_expr (pe_bm PySem.F.plainAttrs_list PySem.F.slot_list_append PySem.F.type_list_append mt_append (pv 2) (pa_cons (pe_tup (pa_cons (pv 3) (pa_cons (pe_ifExp (pt_val (pe_meth (pv 0) T.cl_Scanner T.m_Scanner_take (ok_takeS T) (hr.mono (by decide)) T.b_Scanner_take .nil pass0 (pa_cons pe_str pa_nil))) (pe_meth0 (pv 0) T.cl_Scanner T.m_Scanner_next_name (ok_nnameG T) (hr.mono (by decide)) T.b_Scanner_next_name .nil pass0) pe_non) pa_nil))) pa_nil))))))
      (pss_one (ps_ret (pe_ifExp (pt_val (pe_call (ok_pairs T) (hr.mono (by decide)) rfl T.g_are_pairs T.F_are_pairs.kp T.b_are_pairs .nil pass0 (pa_cons (pe_callTy call_tuple_of (by rfl) T.z_tuple (by decide +kernel) (pa_cons (pv 2) pa_nil)) pa_nil))) (pe_tup (pa_cons pe_str (pa_cons (pv 1) (pa_cons (pe_callTy call_tuple_of (by rfl) T.z_tuple (by decide +kernel) (pa_cons (pv 2) pa_nil)) pa_nil)))) pe_non)))))), ?_⟩
    have hl : (tl z).length = z.length := (len_tl z).symm
    have l1 : (" " : Str).length = 1 := by decide +kernel
    have le1 : ("=" : Str).length = 1 := by decide +kernel
    have nlen := S.len
    refine ⟨_, rfl, a, dx, _, rfl, S.at_, rfl, a, rfl, dx, z, i, S, fun x j0 e1 H1 s1 S1 => ?_, fun e1 j H1 hj s1 S1 => ?_⟩
    · refine ⟨(by show 0 ≤ sizeLine; decide), fun q hq => ?_⟩
      have sq := same_new (o := .lst []) hq
      have S1q := S1.same sq
      refine ⟨_, _, rfl, _, rfl, rfl, _, rfl, iteF ?_⟩
      refine ⟨_, rfl, a, dx, _, rfl, S1q.at_, rfl, a, dx, z, ":", j0, rfl, S1q, by decide +kernel, fun e2 H2 s2 S2 => ⟨_, rfl, iteF ?_⟩, fun e2 => ⟨_, rfl, iteT ?_⟩⟩
      · have nqa : q ≠ a := (ne_of_none S1.at_ hq).symm
        have hq0 : H q = none := SX.none s1 S1.at_ hq
        generalize hj1 : j0 + (":" : Str).length = j1 at S2
        have ec : pKeyed (tl z) i = (pPairs (z.length + 1) (tl z) j1).bind fun q =>
            if 1 ≤ q.1.length ∧ q.1.length ≤ 12 ∧ (∀ x ∈ q.1, x.1 ≠ "") ∧ (q.1.map (·.1)).Nodup then some (.tuple [.str "table", .str x, .tuple (q.1.map fun x => .tuple [.str x.1, .str x.2])], q.2) else none := by
          unfold pKeyed pBef
          rw [e1]
          simp only [Option.bind_some]
          rw [if_pos e2, hj1, hl]; rfl
        refine ⟨KyI T.C_Scanner a dx z j1 x H, ⟨_, q, [], [], j1, none, rfl, rfl, (s1.trans (SX.same sq)).trans s2, hq0, nqa, S2, s2 _ _ nqa upd_same, Nat.zero_le _, .nil, (fun d hd => by cases hd), .inl ⟨[], z.length + 1, rfl, (fun d hd => by cases hd), ?_, rfl⟩⟩, ?_⟩
        · unfold kMore
          cases pPairs (z.length + 1) (tl z) j1 <;> rfl
        rintro m σ H3 ⟨q, xs, ds, j, k0, rfl, rfl, s3, hq0, nqa, S3, hq3, hxj, hxs, pr⟩
        have lx : xs.length = ds.length := hxs.at.len
        have le3 := S3.le
        refine ⟨_, rfl, a, dx, _, rfl, S3.at_, rfl, a, dx, z, " ", j, rfl, S3, by omega, fun e3 H4 s4 S4 => ⟨_, rfl, iteT ?_⟩, fun e3 => ⟨_, rfl, iteF ?_⟩⟩
        · rw [l1] at S4
          have le4 := S4.le
          have hq4 := s4 _ _ nqa hq3
          have mv4 := S3.mvT s4
          refine ⟨fun σ' H' => ∃ m', m' < z.length - j ∧ KyI T.C_Scanner a dx z j1 x H m' σ' H', fun σ' H' h => h, ?_⟩
          have step : ∀ (vk vn : V) (dk dn : PyData) (j3 : Nat) (H5 : Hp), j + 1 ≤ j3 → SX a H4 H5 → Sc T.C_Scanner H5 a dx z j3 → (∀ H', Dh H' vk dk) → (∀ H', Dh H' vn dn) → PrV (tl z) (pPairs (z.length + 1) (tl z) j1) (z.length + 1) (ds ++ [.tuple [dk, dn]]) j3 →
              ∀ p, H5 p = none → (upd H5 p (.tup [vk, vn])) q = some (.lst xs) ∧ xs.length < sizeLine ∧ ∃ m', m' < z.length - j ∧ KyI T.C_Scanner a dx z j1 x H m' [some (.ref a), some (.str x), some (.ref q), some vk] (upd (upd H5 p (.tup [vk, vn])) q (.lst (xs ++ [.ref p]))) := by
            intro vk vn dk dn j3 H5 hj3 s5 S5 hk hn pr5 p hp
            have hq5 := s5 _ _ nqa hq4
            have sp := same_new (o := .tup [vk, vn]) hp
            have hq6 := sp _ _ hq5
            refine ⟨hq6, small1000 (by omega), z.length - j3, by have := S5.le; omega, q, xs ++ [.ref p], ds ++ [.tuple [dk, dn]], j3, _, rfl, rfl, fun b o nb eb => ?_, hq0, nqa, ⟨by rw [upd_ne nqa.symm]; exact sp _ _ S5.at_, S5.le, S5.len⟩, upd_same, by rw [List.length_append]; show xs.length + 1 ≤ j3; omega, ?_, pr5⟩
            · rw [upd_ne (ne_of_none eb hq0)]
              exact sp _ _ (s5 _ _ nb (s4 _ _ nb (s3 _ _ nb eb)))
            · have t1 : St1 (upd H5 p (.tup [vk, vn])) (.ref p) (.tuple [dk, dn]) := St1.tup hp (.all fun H' => .cons (hk H') (.cons (hn H') .nil))
              exact ((hxs.mv ((mv4.trans (S4.mvT s5)).trans (MvT.same sp))).app (.cons t1 .nil)).mv (MvT.put hq6)
          refine ⟨_, rfl, a, dx, _, rfl, S4.at_, rfl, a, dx, z, _, rfl, S4, fun y j2 e4 H5 s5 S5 => ?_, fun e4 j2 H5 hj2 s5 S5 => ?_⟩
          · have b5 : strB (.str y) = true := decide_eq_true (by have := (isN_len8 e4).1; omega)
            have g5 := pWord_ge e4
            have hq5 := s5 _ _ nqa hq4
            refine ⟨_, rfl, .inl ⟨rfl, _, .inl (.inl hq5)⟩, _, rfl, _, rfl, a, dx, _, rfl, S5.at_, rfl, a, dx, z, "=", j2, rfl, S5, by omega, fun e5 H6 s6 S6 => ⟨_, rfl, iteT ?_⟩, fun e5 => ⟨_, rfl, iteF ?_⟩⟩
            · refine ⟨_, rfl, a, dx, _, rfl, S6.at_, rfl, a, rfl, dx, z, _, S6, fun u j3 e6 H7 s7 S7 => ?_, fun e6 j3 H7 hj3 s7 S7 => ?_⟩
              · refine ⟨(by show 2 ≤ sizeLine; decide), fun p hp => ⟨q, _, _, rfl, rfl, step (.str y) (.str u) (.str y) (.str u) j3 H7 (by have := pName_ge e6; omega) ((s5.trans s6).trans s7) S7 (fun H' => .str y) (fun H' => .str u) (pr.good e3 (by omega) e4 e5 e6) p hp⟩⟩
              · refine ⟨(by show 2 ≤ sizeLine; decide), fun p hp => ⟨q, _, _, rfl, rfl, step (.str y) .non (.str y) .none j3 H7 (by omega) ((s5.trans s6).trans s7) S7 (fun H' => .str y) (fun H' => .non) (pr.bad e3 (by omega) ?_ ?_ ?_) p hp⟩⟩
                · show (strB _ && (true && true)) = true
                  rw [b5]; rfl
                · show (_ && _ && false) = false
                  rw [Bool.and_false]
                · unfold pBef
                  rw [e4]
                  simp only [Option.bind_some]
                  rw [if_pos e5]
                  simp only [Option.bind_some]
                  exact e6
            · refine ⟨(by show 2 ≤ sizeLine; decide), fun p hp => ⟨q, _, _, rfl, rfl, step (.str y) .non (.str y) .none j2 H5 (by omega) s5 S5 (fun H' => .str y) (fun H' => .non) (pr.bad e3 (by omega) ?_ ?_ ?_) p hp⟩⟩
              · show (strB _ && (true && true)) = true
                rw [b5]; rfl
              · show (_ && _ && false) = false
                rw [Bool.and_false]
              · unfold pBef
                rw [e4]
                simp only [Option.bind_some]
                rw [if_neg (by rw [e5]; decide)]; rfl
          · have hq5 := s5 _ _ nqa hq4
            have en : ((pBef pWord "=" (tl z) (j + 1)).bind fun r => pName (tl z) r.2) = none := by
              unfold pBef
              rw [e4]; rfl
            refine ⟨_, rfl, .inl ⟨rfl, _, .inl (.inl hq5)⟩, _, rfl, _, rfl, a, dx, _, rfl, S5.at_, rfl, a, dx, z, "=", j2, rfl, S5, by omega, fun e5 H6 s6 S6 => ⟨_, rfl, iteT ?_⟩, fun e5 => ⟨_, rfl, iteF ?_⟩⟩
            · refine ⟨_, rfl, a, dx, _, rfl, S6.at_, rfl, a, rfl, dx, z, _, S6, fun u j3 e6 H7 s7 S7 => ?_, fun e6 j3 H7 hj3 s7 S7 => ?_⟩
              · refine ⟨(by show 2 ≤ sizeLine; decide), fun p hp => ⟨q, _, _, rfl, rfl, step .non (.str u) .none (.str u) j3 H7 (by have := pName_ge e6; omega) ((s5.trans s6).trans s7) S7 (fun H' => .non) (fun H' => .str u) (pr.bad e3 (by omega) ?_ rfl en) p hp⟩⟩
                show (true && (strB _ && true)) = true
                rw [show strB (.str u) = true from decide_eq_true (by have := (pName_N e6).2; omega)]; rfl
              · exact ⟨(by show 2 ≤ sizeLine; decide), fun p hp => ⟨q, _, _, rfl, rfl, step .non .non .none .none j3 H7 (by omega) ((s5.trans s6).trans s7) S7 (fun H' => .non) (fun H' => .non) (pr.bad e3 (by omega) rfl rfl en) p hp⟩⟩
            · exact ⟨(by show 2 ≤ sizeLine; decide), fun p hp => ⟨q, _, _, rfl, rfl, step .non .non .none .none j2 H5 (by omega) s5 S5 (fun H' => .non) (fun H' => .non) (pr.bad e3 (by omega) rfl rfl en) p hp⟩⟩
        · refine ⟨_, rfl, q, _, rfl, .inl ⟨.inl (.inl hq3), fun t ht => ?_⟩⟩
          have st := same_new (o := .tup xs) ht
          obtain ⟨pb, way⟩ := pr
          refine ⟨_, .tuple ds, rfl, (St1.tup ht hxs) _ .refl, fun es e => ?_, fun H4 s4 => ⟨_, rfl, ?_⟩⟩
          · injection e with e
            subst e
            exact ⟨by omega, pb⟩
          have s34 := (s3.trans (SX.same st)).trans (SX.same s4)
          have S4 := (S3.same st).same s4
          rcases way with ⟨ps, f, rfl, h3, h4, h5⟩ | ⟨h3, h4⟩
          · rw [List.length_map] at lx
            obtain ⟨f, rfl⟩ : ∃ g, f = g + 1 := ⟨f - 1, by omega⟩
            rw [h4, kMore_stop e3] at ec
            simp only [Option.bind_some] at ec
            have en : dPairs (.tuple (ps.map toD)) = decide (1 ≤ ps.length ∧ ps.length ≤ 12 ∧ (∀ x ∈ ps, x.1 ≠ "") ∧ (ps.map (·.1)).Nodup) := by
              show (decide _ && decide _ && (_ && decide _)) = _
              have a1 : (ps.map toD).all dPair = decide (∀ x ∈ ps, x.1 ≠ "") := by
                rw [Bool.eq_iff_iff, List.all_eq_true, decide_eq_true_eq]
                constructor
                · intro h x hx
                  have := h (toD x) (List.mem_map.mpr ⟨x, hx, rfl⟩)
                  have : (isW x.1 && decide (x.1 ≠ "") && isN x.2) = true := this
                  simp only [Bool.and_eq_true, decide_eq_true_eq] at this
                  exact this.1.2
                · intro h d hd
                  obtain ⟨x, hx, rfl⟩ := List.mem_map.mp hd
                  show (isW x.1 && decide (x.1 ≠ "") && isN x.2) = true
                  rw [(h3 x hx).1, (h3 x hx).2, decide_eq_true (h x hx)]; rfl
              have a2 : (ps.map toD).map dKey = ps.map (·.1) := by rw [List.map_map]; rfl
              rw [a1, a2, List.length_map, Bool.decide_and, Bool.decide_and, Bool.decide_and, Bool.and_assoc]
            by_cases h6 : 1 ≤ ps.length ∧ ps.length ≤ 12 ∧ (∀ x ∈ ps, x.1 ≠ "") ∧ (ps.map (·.1)).Nodup
            · refine iteDT (by rw [en]; exact decide_eq_true h6) ?_
              have hq4 := s4 _ _ (st _ _ hq3)
              refine ⟨_, rfl, _, rfl, q, _, rfl, .inl ⟨.inl (.inl hq4), fun t2 ht2 => ?_⟩⟩
              refine ⟨(by show 3 ≤ sizeLine; decide), fun p hp => ?_⟩
              have st2 := same_new (o := .tup xs) ht2
              have sp := same_new (o := .tup [.str "table", .str x, .ref t2]) hp
              exact kS (.tuple [.str "table", .str x, .tuple (ps.map toD)]) j (by rw [ec, if_pos h6]; rfl) _ _ ((s34.trans (SX.same st2)).trans (SX.same sp)) ((S4.same st2).same sp) (St1.tup hp (.cons (.str _) (.cons (.str _) (.cons (St1.tup ht2 (hxs.mv (MvT.same (st.trans s4)))) .nil)))) (fun z => nomatch z)
            · refine iteDF (by rw [en]; exact decide_eq_false h6) (kN (by rw [ec, if_neg h6]) j H4 s34 S4)
          · refine iteDF ?_ (kN (by rw [ec, h4]; rfl) j H4 s34 S4)
            show (_ && _ && (_ && _)) = false
            rw [h3, Bool.false_and, Bool.and_false]
      · refine kN ?_ j0 _ (s1.trans (SX.same sq)) S1q
        unfold pKeyed pBef
        rw [e1]
        simp [e2]
    · refine ⟨(by show 0 ≤ sizeLine; decide), fun q hq => ?_⟩
      have sq := same_new (o := .lst []) hq
      refine ⟨_, _, rfl, _, rfl, rfl, _, rfl, iteT (iteT ?_)⟩
      refine kN ?_ j _ (s1.trans (SX.same sq)) (S1.same sq)
      unfold pKeyed pBef
      rw [e1]; rfl
end
end Sn

/-! ## The scanner of a line: an item -/
namespace Sn
open PySem PySem.Spec PyProof.Rows L2 TL
section
variable {P : Program} {w : World} {K : PySem.W.Frag} {mg : Str → Option Value} {base : Heap}
theorem ok_item (T : Txt K mg) : FnOk P w K mg base CX0 8 T.f_Scanner_item T.fd_Scanner_item ["self"] (spD1 T.C_Scanner pItem) := by
  have GU : FnOk P w K mg base CX0 4 T.f_Scanner_used T.fd_Scanner_used ["self"] (spD1 T.C_Scanner pUsed) := ok_used T
  have GO : FnOk P w K mg base CX0 4 T.f_Scanner_offered T.fd_Scanner_offered ["self"] (spD1P T.C_Scanner pOffered) := ok_offered T
  have GK : FnOk P w K mg base CX0 4 T.f_Scanner_keyed T.fd_Scanner_keyed ["self"] (spD1 T.C_Scanner pKeyed) := ok_keyed T
  have GD : FnOk P w K mg base CX0 7 T.f_Scanner_defined T.fd_Scanner_defined ["self"] (spD1 T.C_Scanner pDefined) := ok_defined T
  have GN : FnOk P w K mg base CX0 3 T.f_Scanner_next_name T.fd_Scanner_next_name ["self"] (spT1 T.C_Scanner pName) := ok_nname T
  have GQ : FnOk P w K mg base CX0 3 T.f_Scanner_quoted T.fd_Scanner_quoted ["self", "ahead", "behind"] (spQuo T.C_Scanner) := ok_quoted T
  have GT : FnOk P w K mg base CX0 1 T.f_Scanner_take T.fd_Scanner_take ["self", "signs"] (spTakeS T.C_Scanner) := ok_takeS T
  refine T.F_Scanner_item.ok sc_Scanner_item (fun vs H Q E h => ?_) (fun cdv A outer s H vs Q E hr h => ?_)
  · obtain ⟨a, rfl, _⟩ := h
    rfl
  · obtain ⟨a, rfl, dx, z, i, S, kS, kN⟩ := h
    refine ⟨_, (pss_cons (ps_if (pt_val (pe_meth (pv 0) T.cl_Scanner T.m_Scanner_take (ok_takeS T) (hr.mono (by decide)) T.b_Scanner_take .nil pass0 (pa_cons pe_str pa_nil)))
        (pss_one (ps_ret (pe_meth0 (pv 0) T.cl_Scanner T.m_Scanner_used (ok_used T) (hr.mono (by decide)) T.b_Scanner_used .nil pass0)))
        pss_nil)
      (pss_cons (ps_if (pt_val (pe_meth (pv 0) T.cl_Scanner T.m_Scanner_take (ok_takeS T) (hr.mono (by decide)) T.b_Scanner_take .nil pass0 (pa_cons pe_str pa_nil)))
        (pss_one (ps_ret (pe_meth0 (pv 0) T.cl_Scanner T.m_Scanner_offered (ok_offered T) (hr.mono (by decide)) T.b_Scanner_offered .nil pass0)))
        pss_nil)
      (pss_cons (ps_if (pt_val (pe_meth (pv 0) T.cl_Scanner T.m_Scanner_take (ok_takeS T) (hr.mono (by decide)) T.b_Scanner_take .nil pass0 (pa_cons pe_str pa_nil)))
        (pss_one (ps_ret (pe_meth0 (pv 0) T.cl_Scanner T.m_Scanner_keyed (ok_keyed T) (hr.mono (by decide)) T.b_Scanner_keyed .nil pass0)))
        pss_nil)
      (pss_cons (ps_if (pt_val (pe_meth (pv 0) T.cl_Scanner T.m_Scanner_take (ok_takeS T) (hr.mono (by decide)) T.b_Scanner_take .nil pass0 (pa_cons pe_str pa_nil)))
        (pss_one (ps_ret (pe_meth0 (pv 0) T.cl_Scanner T.m_Scanner_defined (ok_defined T) (hr.mono (by decide)) T.b_Scanner_defined .nil pass0)))
        pss_nil)
      (pss_cons (ps_if (pt_val (pe_meth (pv 0) T.cl_Scanner T.m_Scanner_take (ok_takeS T) (hr.mono (by decide)) T.b_Scanner_take .nil pass0 (pa_cons pe_str pa_nil)))
        (pss_cons (ps_set (i := 1) sc_Scanner_item.nd rfl (Or.inl rfl) (pe_meth0 (pv 0) T.cl_Scanner T.m_Scanner_next_name (ok_nname T) (hr.mono (by decide)) T.b_Scanner_next_name .nil pass0))
      (pss_one (ps_ret (pe_ifExp (pt_cmpR op_isN (pv 1) pe_non (nomark _)) pe_non (pe_tup (pa_cons pe_str (pa_cons (pv 1) pa_nil)))))))
        pss_nil)
      (pss_cons (ps_set (i := 1) sc_Scanner_item.nd rfl (Or.inl rfl) (pe_ifExp (pt_val (pe_meth (pv 0) T.cl_Scanner T.m_Scanner_take (ok_takeS T) (hr.mono (by decide)) T.b_Scanner_take .nil pass0 (pa_cons pe_str pa_nil))) (pe_meth0 (pv 0) T.cl_Scanner T.m_Scanner_next_name (ok_nname T) (hr.mono (by decide)) T.b_Scanner_next_name .nil pass0) pe_non))
      (pss_cons (ps_set (i := 2) sc_Scanner_item.nd rfl (Or.inl rfl) (pe_ifExp (pt_cmpR op_isN (pv 1) pe_non (nomark _)) pe_non (pe_meth (pv 0) T.cl_Scanner T.m_Scanner_quoted (ok_quoted T) (hr.mono (by decide)) T.b_Scanner_quoted .nil pass0 (pa_cons pe_str (pa_cons pe_str pa_nil)))))
      (pss_one (ps_ret (pe_ifExp (pt_cmpR op_isN (pv 2) pe_non (nomark _)) pe_non (pe_tup (pa_cons pe_str (pa_cons (pv 1) (pa_cons (pv 2) pa_nil)))))))))))))), ?_⟩
    have n1 : ("use " : Str).length = 4 := by decide +kernel
    have n2 : ("offer " : Str).length = 6 := by decide +kernel
    have n3 : ("table " : Str).length = 6 := by decide +kernel
    have n4 : ("def " : Str).length = 4 := by decide +kernel
    have n5 : ("entry " : Str).length = 6 := by decide +kernel
    have n6 : ("set " : Str).length = 4 := by decide +kernel
    refine ⟨_, rfl, a, dx, _, rfl, S.at_, rfl, a, dx, z, "use ", i, rfl, S, by omega, fun e1 H1 s1 S1 => ⟨_, rfl, iteT ?_⟩, fun e1 => ⟨_, rfl, iteF ?_⟩⟩
    · rw [n1] at S1
      have ec : pItem (tl z) i = pUsed (tl z) (i + 4) := by unfold pItem; simp [e1]
      exact ⟨_, rfl, a, dx, _, rfl, S1.at_, rfl, a, rfl, dx, z, _, S1, fun y j e v H2 s2 S2 hv nv => kS y j (by rw [ec, e]) v H2 (s1.trans s2) S2 hv nv, fun e j H2 s2 S2 => kN (by rw [ec, e]) j H2 (s1.trans s2) S2⟩
    refine ⟨_, rfl, a, dx, _, rfl, S.at_, rfl, a, dx, z, "offer ", i, rfl, S, by omega, fun e2 H1 s1 S1 => ⟨_, rfl, iteT ?_⟩, fun e2 => ⟨_, rfl, iteF ?_⟩⟩
    · rw [n2] at S1
      have ec : pItem (tl z) i = pOffered (tl z) (i + 6) := by unfold pItem; simp [e1, e2]
      exact ⟨_, rfl, a, dx, _, rfl, S1.at_, rfl, a, rfl, dx, z, _, by omega, S1, fun y j e v H2 s2 S2 hv nv => kS y j (by rw [ec, e]) v H2 (s1.trans s2) S2 hv nv, fun e j H2 s2 S2 => kN (by rw [ec, e]) j H2 (s1.trans s2) S2⟩
    refine ⟨_, rfl, a, dx, _, rfl, S.at_, rfl, a, dx, z, "table ", i, rfl, S, by omega, fun e3 H1 s1 S1 => ⟨_, rfl, iteT ?_⟩, fun e3 => ⟨_, rfl, iteF ?_⟩⟩
    · rw [n3] at S1
      have ec : pItem (tl z) i = pKeyed (tl z) (i + 6) := by unfold pItem; simp [e1, e2, e3]
      exact ⟨_, rfl, a, dx, _, rfl, S1.at_, rfl, a, rfl, dx, z, _, S1, fun y j e v H2 s2 S2 hv nv => kS y j (by rw [ec, e]) v H2 (s1.trans s2) S2 hv nv, fun e j H2 s2 S2 => kN (by rw [ec, e]) j H2 (s1.trans s2) S2⟩
    refine ⟨_, rfl, a, dx, _, rfl, S.at_, rfl, a, dx, z, "def ", i, rfl, S, by omega, fun e4 H1 s1 S1 => ⟨_, rfl, iteT ?_⟩, fun e4 => ⟨_, rfl, iteF ?_⟩⟩
    · rw [n4] at S1
      have ec : pItem (tl z) i = pDefined (tl z) (i + 4) := by unfold pItem; simp [e1, e2, e3, e4]
      exact ⟨_, rfl, a, dx, _, rfl, S1.at_, rfl, a, rfl, dx, z, _, S1, fun y j e v H2 s2 S2 hv nv => kS y j (by rw [ec, e]) v H2 (s1.trans s2) S2 hv nv, fun e j H2 s2 S2 => kN (by rw [ec, e]) j H2 (s1.trans s2) S2⟩
    refine ⟨_, rfl, a, dx, _, rfl, S.at_, rfl, a, dx, z, "entry ", i, rfl, S, by omega, fun e5 H1 s1 S1 => ⟨_, rfl, iteT ?_⟩, fun e5 => ⟨_, rfl, ?_⟩⟩
    · rw [n5] at S1
      have ec : pItem (tl z) i = pMap (fun w => .tuple [.str "entry", .str w]) pName (tl z) (i + 6) := by unfold pItem; simp [e1, e2, e3, e4, e5]
      refine ⟨_, rfl, a, dx, _, rfl, S1.at_, rfl, a, rfl, dx, z, _, S1, fun x j e6 H2 s2 S2 => ?_, fun e6 j H2 s2 S2 => ?_⟩
      · refine ⟨_, rfl, rfl, _, rfl, iteF ?_⟩
        refine ⟨_, rfl, (by show 2 ≤ sizeLine; decide), fun p hp => ?_⟩
        have sp := same_new (o := .tup [.str "entry", .str x]) hp
        exact kS _ j (by rw [ec]; unfold pMap; rw [e6]; rfl) _ _ ((s1.trans s2).trans (SX.same sp)) (S2.same sp) (St1.tup hp (.cons (.str _) (.cons (.str _) .nil))) (fun z => nomatch z)
      · refine ⟨_, rfl, rfl, _, rfl, iteT ?_⟩
        exact kN (by rw [ec]; unfold pMap; rw [e6]; rfl) j H2 (s1.trans s2) S2
    refine iteF ?_
    refine ⟨_, rfl, a, dx, _, rfl, S.at_, rfl, a, dx, z, "set ", i, rfl, S, by omega, fun e6 H1 s1 S1 => ⟨_, rfl, iteT ?_⟩, fun e6 => ⟨_, rfl, iteF ?_⟩⟩
    · rw [n6] at S1
      have ec : pItem (tl z) i = (pName (tl z) (i + 4)).bind fun r => pMap (fun w => .tuple [.str "set", .str r.1, .str w]) (pQuoted " = \"" "\"") (tl z) r.2 := by unfold pItem; simp [e1, e2, e3, e4, e5, e6]
      refine ⟨_, rfl, a, dx, _, rfl, S1.at_, rfl, a, rfl, dx, z, _, S1, fun x j e7 H2 s2 S2 => ?_, fun e7 j H2 s2 S2 => ?_⟩
      · refine ⟨_, rfl, rfl, _, rfl, iteF ?_⟩
        refine ⟨_, rfl, a, dx, _, rfl, S2.at_, rfl, a, " = \"", "\"", rfl, by decide +kernel, by decide +kernel, dx, z, j, S2, fun y j2 e8 H3 s3 S3 => ?_, fun e8 j2 H3 s3 S3 => ?_⟩
        · refine ⟨_, rfl, rfl, _, rfl, iteF ?_⟩
          refine ⟨_, rfl, _, rfl, (by show 3 ≤ sizeLine; decide), fun p hp => ?_⟩
          have sp := same_new (o := .tup [.str "set", .str x, .str y]) hp
          exact kS _ j2 (by rw [ec, e7]; unfold pMap; simp only [Option.bind_some]; rw [e8]; rfl) _ _ (((s1.trans s2).trans s3).trans (SX.same sp)) (S3.same sp) (St1.tup hp (.cons (.str _) (.cons (.str _) (.cons (.str _) .nil)))) (fun z => nomatch z)
        · refine ⟨_, rfl, rfl, _, rfl, iteT ?_⟩
          exact kN (by rw [ec, e7]; unfold pMap; simp only [Option.bind_some]; rw [e8]; rfl) j2 H3 ((s1.trans s2).trans s3) S3
      · refine ⟨_, rfl, rfl, _, rfl, iteT ?_⟩
        refine ⟨_, rfl, rfl, _, rfl, iteT ?_⟩
        exact kN (by rw [ec, e7]; rfl) j H2 (s1.trans s2) S2
    · refine ⟨_, rfl, rfl, _, rfl, iteT ?_⟩
      refine ⟨_, rfl, rfl, _, rfl, iteT ?_⟩
      exact kN (by unfold pItem; simp [e1, e2, e3, e4, e5, e6]) i H SX.refl S
end
end Sn

/-! ## What read_module computes, in plain terms -/
namespace Sn
open PySem PySem.Spec PyProof.Rows L2 TL
/-- a line that opens a block: its word, what follows the word, the first block where there is a second one, the rows so far -/
structure PF where
  word : Str
  rest : List PyData
  pre : Option (List PyData)
  cur : List PyData
/-- what the reader holds; the frames: the deepest first -/
structure PR where
  kept : List PyData
  bound : List Str
  frames : List PF
def binders : List Str := ["use", "set", "table", "def"]
def openers : List Str := ["def", "if", "there", "each", "try"]
/-- the line of the second block -/
def second (w : Str) : Option Str := if w = "if" ∨ w = "there" then some "else:" else if w = "try" then some "except:" else none
def PF.data (f : PF) : PyData := .tuple (.str f.word :: f.rest)
def PF.complete (f : PF) : Bool := !f.cur.isEmpty && (decide (f.word ≠ "try") || f.pre.isSome)
def PF.blocks (f : PF) : List (List PyData) := f.pre.toList ++ [f.cur]
def PF.more (f : PF) : Bool := (decide (f.word = "if") || decide (f.word = "there")) && !f.pre.isSome
def PF.wholes (f : PF) : List (List PyData) := f.blocks ++ if f.more = true then [[]] else []
def PF.whole (f : PF) : PyData := .tuple (.str f.word :: (f.rest ++ f.wholes.map PyData.tuple))
def PF.goes (f : PF) (z : Str) : Bool := !f.pre.isSome && !f.cur.isEmpty && decide (second f.word = some z)
def PR.keep (R : PR) (d : PyData) : PR := match R.frames with
  | [] => { R with kept := R.kept ++ [d] }
  | f :: fs => { R with frames := { f with cur := f.cur ++ [d] } :: fs }
/-- the frames above a level ended -/
def PR.shutN (lv : Nat) : Nat → PR → Option PR
  | 0, R => some R
  | n + 1, R => if R.frames.length ≤ lv then some R else match R.frames with
    | [] => some R
    | f :: fs => if f.complete = true then ({ R with frames := fs } : PR).keep f.whole |>.shutN lv n else none
def PR.shut (R : PR) (lv : Nat) : Option PR := R.shutN lv R.frames.length
def PR.second (R : PR) (z : Str) : Option PR := match R.frames with
  | [] => none
  | f :: fs => if f.goes z = true then some { R with frames := { f with pre := some f.cur, cur := [] } :: fs } else none
def PR.goOn (R : PR) (z : Str) (lv : Nat) : Option PR := if R.frames.length ≤ lv then none else (R.shut (lv + 1)).bind fun R' => R'.second z
/-- a head: its word, what follows -/
def hdW : PyData → Str
  | .tuple (.str w :: _) => w
  | _ => ""
def hdR : PyData → List PyData
  | .tuple (_ :: r) => r
  | _ => []
def hdN : PyData → Str
  | .tuple (_ :: .str n :: _) => n
  | _ => ""
def PR.bind (R : PR) (d : PyData) : Option PR := if hdW d ∈ binders then (if hdN d ∈ R.bound then none else some { R with bound := R.bound ++ [hdN d] }) else some R
def PR.put (R : PR) (d : PyData) (lv : Nat) : Option PR := if hdW d ∉ openers then some (R.keep d) else if 4 ≤ lv then none else some { R with frames := ⟨hdW d, hdR d, none, []⟩ :: R.frames }
def PR.takeHead (R : PR) (d : PyData) (lv : Nat) : Option PR := (R.bind d).bind fun R' => R'.put d lv
/-- the line without its blanks in front -/
def strip (z : Str) : Str := ⟨((tl z).dropWhile fun c => decide (c = 32)).toArray⟩
def PR.line (R : PR) (s : Str) (lv : Nat) : Option PR := if s = "else:" ∨ s = "except:" then R.goOn s lv
  else match (if lv = 0 then pItem else pStmt) (tl s) 0 with
    | none => none
    | some (d, j) => if (tl s).drop j ≠ [] then none else (R.shut lv).bind fun R' => R'.takeHead d lv
def PR.take (R : PR) (z : Str) : Option PR := if (z.length - (strip z).length) % 4 ≠ 0 ∨ R.frames.length < (z.length - (strip z).length) / 4 then none else R.line (strip z) ((z.length - (strip z).length) / 4)
/-- the lines from the n-th on: what is read, or the number of the wrong one -/
def readL : Nat → PR → List Str → Except Nat PR
  | _, R, [] => .ok R
  | n, R, z :: zs => if z = "" then readL (n + 1) R zs else match R.take z with
    | none => .error (n + 1)
    | some R' => readL (n + 1) R' zs
def readAll (zs : List Str) : Except Nat (List PyData) := match readL 0 ⟨[], [], []⟩ zs with
  | .error k => .error k
  | .ok R => match R.shut 0 with
    | none => .error (zs.length + 1)
    | some R' => .ok R'.kept
/-- how much is held -/
def PF.size (f : PF) : Nat := (f.pre.getD []).length + f.cur.length + 1
def PR.size (R : PR) : Nat := R.kept.length + (R.frames.map PF.size).sum
theorem keep_size (R : PR) (d : PyData) : (R.keep d).size = R.size + 1 ∧ (R.keep d).bound = R.bound ∧ (R.keep d).frames.length = R.frames.length := by
  unfold PR.keep
  split
  · rename_i h
    refine ⟨?_, rfl, rfl⟩
    simp only [PR.size, h]
    simp
  · rename_i f fs h
    refine ⟨?_, rfl, by rw [h]; rfl⟩
    simp only [PR.size, h]
    simp [PF.size]
    omega
theorem strip_eq (z : Str) : Txt.lstripChars z " " = strip z := by
  show Txt.stripBy _ true false z = _
  rw [PyProof.Rows.stripBy_eq]
  have e1 : stripHi ((" " : Str).cps.contains) false z (stripLo ((" " : Str).cps.contains) true z) = z.length := rfl
  rw [e1]
  have e2 : ∀ c, ((" " : Str).cps.contains c) = decide (c = 32) := by
    intro c
    have : (" " : Str).cps = #[32] := by decide +kernel
    rw [this]
    simp [eq_comm]
  have e3 : stripLo ((" " : Str).cps.contains) true z = ((tl z).takeWhile fun c => decide (c = 32)).length := by
    show ((tl z).takeWhile _).length = _
    congr 2
    funext c
    exact e2 c
  rw [e3]
  unfold strip
  have e4 : ∀ (l : List Nat) (p : Nat → Bool), l.dropWhile p = l.drop (l.takeWhile p).length := by
    intro l p
    induction l with
    | nil => rfl
    | cons x r ih =>
      by_cases h : p x = true
      · rw [List.dropWhile_cons_of_pos h, List.takeWhile_cons_of_pos h, ih]; rfl
      · rw [List.dropWhile_cons_of_neg h, List.takeWhile_cons_of_neg h]; rfl
  rw [e4]
  show (⟨z.cps.extract _ z.length⟩ : Str) = _
  congr 1
  apply Array.toList_inj.mp
  rw [Array.toList_extract]
  show List.extract _ _ _ = ((tl z).drop _)
  simp [List.extract]
  exact List.take_of_length_le (by rw [List.length_drop]; exact Nat.le_refl _)
end Sn

/-! ## The reader on the heap: frames -/
namespace Sn
open PySem PySem.Spec PyProof.Rows L2 TL
/-- where a frame stands: the object, its namespace, its head, its list of blocks, its first block (if there are two), its last one -/
structure FA where
  fa : Addr
  df : Addr
  hv : V
  ba : Addr
  pb : Option Addr
  cb : Addr
def FA.bs (f : FA) : List Addr := f.pb.toList ++ [f.cb]
def FA.own (f : FA) : List Addr := f.ba :: f.bs
/-- a block at b -/
def Blk (H : Hp) (b : Addr) (rows : List PyData) : Prop := ∃ ys, H b = some (.lst ys) ∧ StA H ys rows
structure FrAt (C : Addr) (H : Hp) (f : FA) (p : PF) : Prop where
  ins : H f.fa = some (.ins C f.df [("head", f.hv), ("blocks", .ref f.ba)])
  head : St1 H f.hv p.data
  blocks : H f.ba = some (.lst (f.pb.toList.map V.ref ++ [V.ref f.cb]))
  pre : (f.pb = none ∧ p.pre = none) ∨ ∃ b rows, f.pb = some b ∧ p.pre = some rows ∧ Blk H b rows
  cur : Blk H f.cb p.cur
  op : p.word ∈ openers
  few : p.rest.length ≤ 10
/-- the change keeps tuples, objects, and all lists but those in L -/
structure Ch (L : List Addr) (H H' : Hp) : Prop where
  oth : ∀ b o, b ∉ L → H b = some o → H' b = some o
  ins : ∀ b C d fs, H b = some (.ins C d fs) → H' b = some (.ins C d fs)
  tup : MvT H H'
theorem Ch.same {L : List Addr} {H H' : Hp} (s : Same H H') : Ch L H H' := ⟨fun b o _ e => s _ _ e, fun b C d fs e => s _ _ e, MvT.same s⟩
theorem Ch.putL {a : Addr} {H : Hp} {l l' : List V} (h : H a = some (.lst l)) : Ch [a] H (upd H a (.lst l')) :=
  ⟨fun b o n e => by rw [upd_ne (fun q => n (List.mem_singleton.mpr q))]; exact e, fun b C d fs e => by rw [upd_ne (fun q => by rw [q, h] at e; cases e)]; exact e, MvT.put h⟩
theorem Ch.putD {a : Addr} {H : Hp} {l l' : List (Key × V)} (h : H a = some (.dK l)) : Ch [a] H (upd H a (.dK l')) :=
  ⟨fun b o n e => by rw [upd_ne (fun q => n (List.mem_singleton.mpr q))]; exact e, fun b C d fs e => by rw [upd_ne (fun q => by rw [q, h] at e; cases e)]; exact e, fun b xs e => by rw [upd_ne (fun q => by rw [q, h] at e; cases e)]; exact e⟩
theorem Blk.ch {L : List Addr} {H H' : Hp} {b : Addr} {rows : List PyData} (h : Blk H b rows) (c : Ch L H H') (n : b ∉ L) : Blk H' b rows := by
  obtain ⟨ys, e, a⟩ := h
  exact ⟨ys, c.oth _ _ n e, a.mv c.tup⟩
theorem FrAt.ch {C : Addr} {L : List Addr} {H H' : Hp} {f : FA} {p : PF} (h : FrAt C H f p) (c : Ch L H H') (n : ∀ b ∈ f.own, b ∉ L) : FrAt C H' f p where
  ins := c.ins _ _ _ _ h.ins
  head := h.head.mv c.tup
  blocks := c.oth _ _ (n _ (by simp [FA.own])) h.blocks
  pre := by
    rcases h.pre with e | ⟨b, rows, e1, e2, e3⟩
    · exact .inl e
    · exact .inr ⟨b, rows, e1, e2, e3.ch c (n _ (by simp [FA.own, FA.bs, e1]))⟩
  cur := h.cur.ch c (n _ (by simp [FA.own, FA.bs]))
  op := h.op
  few := h.few
inductive FrAll (C : Addr) (H : Hp) : List FA → List PF → Prop
  | nil : FrAll C H [] []
  | cons {f : FA} {p : PF} {fs : List FA} {ps : List PF} : FrAt C H f p → FrAll C H fs ps → FrAll C H (f :: fs) (p :: ps)
theorem FrAll.ch {C : Addr} {L : List Addr} {H H' : Hp} {fs : List FA} {ps : List PF} (h : FrAll C H fs ps) (c : Ch L H H') : (∀ f ∈ fs, ∀ b ∈ f.own, b ∉ L) → FrAll C H' fs ps := by
  induction h with
  | nil => exact fun _ => .nil
  | cons h1 _ ih => exact fun n => .cons (h1.ch c (n _ (by simp))) (ih fun f hf => n f (by simp [hf]))
theorem FrAll.len {C : Addr} {H : Hp} {fs : List FA} {ps : List PF} (h : FrAll C H fs ps) : fs.length = ps.length := by
  induction h with
  | nil => rfl
  | cons _ _ ih => rw [List.length_cons, List.length_cons, ih]
/-- the reader at r; H0: what was there ahead of it -/
structure RdAt (C CF : Addr) (H0 H : Hp) (r dr ak ab af : Addr) (fs : List FA) (R : PR) : Prop where
  ins : H r = some (.ins C dr [("kept", .ref ak), ("bound", .ref ab), ("frames", .ref af)])
  kept : Blk H ak R.kept
  bound : H ab = some (.dK (trues R.bound))
  frames : H af = some (.lst (fs.map fun f => V.ref f.fa).reverse)
  each : FrAll CF H fs R.frames
  nd : (ak :: af :: fs.flatMap FA.own).Nodup
  base : Same H0 H
  new : ∀ a ∈ ab :: ak :: af :: fs.flatMap FA.own, H0 a = none
def Rd (C CF : Addr) (H0 H : Hp) (r : Addr) (R : PR) : Prop := ∃ dr ak ab af fs, RdAt C CF H0 H r dr ak ab af fs R
theorem Rd.base {C CF : Addr} {H0 H : Hp} {r : Addr} {R : PR} (h : Rd C CF H0 H r R) : Same H0 H := by
  obtain ⟨_, _, _, _, _, h⟩ := h
  exact h.base
theorem RdAt.same {C CF : Addr} {H0 H H' : Hp} {r dr ak ab af : Addr} {fs : List FA} {R : PR} (h : RdAt C CF H0 H r dr ak ab af fs R) (s : Same H H') : RdAt C CF H0 H' r dr ak ab af fs R where
  ins := s _ _ h.ins
  kept := h.kept.ch (Ch.same (L := []) s) (by simp)
  bound := s _ _ h.bound
  frames := s _ _ h.frames
  each := h.each.ch (Ch.same (L := []) s) (fun _ _ _ _ => by simp)
  nd := h.nd
  base := h.base.trans s
  new := h.new
theorem Rd.same {C CF : Addr} {H0 H H' : Hp} {r : Addr} {R : PR} (h : Rd C CF H0 H r R) (s : Same H H') : Rd C CF H0 H' r R := by
  obtain ⟨dr, ak, ab, af, fs, h⟩ := h
  exact ⟨dr, ak, ab, af, fs, h.same s⟩
/-- an owned address is changed -/
theorem same_own {H0 H : Hp} {a : Addr} {o : HO} (s : Same H0 H) (h : H0 a = none) : Same H0 (upd H a o) := fun b x e => by
  rw [upd_ne (ne_of_none e h)]
  exact s _ _ e
theorem Blk.le {H : Hp} {b : Addr} {rows : List PyData} {ys : List V} (h : Blk H b rows) (e : H b = some (.lst ys)) : ys.length = rows.length ∧ StA H ys rows := by
  obtain ⟨zs, e1, a⟩ := h
  rw [e] at e1
  cases e1
  exact ⟨a.at.len, a⟩
section
variable {P : Program} {w : World} {K : PySem.W.Frag} {mg : Str → Option Value} {base : Heap}
theorem StA.unc {H : Hp} {xs : List V} {d : PyData} {ds : List PyData} (h : StA H xs (d :: ds)) : ∃ v vs, xs = v :: vs ∧ St1 H v d ∧ StA H vs ds := by
  cases xs with
  | nil =>
    have := h.at.len
    cases this
  | cons v vs =>
    refine ⟨v, vs, rfl, fun H' m => ?_, fun H' m => ?_⟩
    · cases h H' m with
      | cons a b => exact a
    · cases h H' m with
      | cons a b => exact b
theorem St1.strV {H : Hp} {v : V} {z : Str} (h : St1 H v (.str z)) : v = .str z := by
  cases h H .refl
  rfl
/-- a head on the heap -/
theorem head_at {H : Hp} {v : V} {z : Str} {ds : List PyData} (h : St1 H v (.tuple (.str z :: ds))) : ∃ ha vs, v = .ref ha ∧ H ha = some (.tup (.str z :: vs)) ∧ StA H vs ds := by
  obtain ⟨ha, xs, rfl, hh, hxs⟩ := h.tupAt
  obtain ⟨u, vs, rfl, h1, h2⟩ := hxs.unc
  have := h1.strV
  subst this
  exact ⟨ha, vs, rfl, hh, h2⟩
theorem FrAt.lenB {C : Addr} {H : Hp} {f : FA} {p : PF} (F : FrAt C H f p) : (f.pb.toList.map V.ref ++ [V.ref f.cb]).length = if p.pre.isSome = true then 2 else 1 := by
  rcases F.pre with ⟨e1, e2⟩ | ⟨b, rows, e1, e2, _⟩
  · rw [e1, e2]; rfl
  · rw [e1, e2]; rfl
theorem SqL.at {K : PySem.W.Frag} {H : Hp} {a : Addr} {xs : List V} (h : H a = some (.lst xs)) : SqL K H a xs := .inl (.inl h)
theorem SqT.at {K : PySem.W.Frag} {H : Hp} {a : Addr} {xs : List V} (h : H a = some (.tup xs)) : SqT K H a xs := .inl (.inl h)
theorem FrAt.blk {C : Addr} {H : Hp} {f : FA} {p : PF} (F : FrAt C H f p) {i : Nat} {x : V} (h : (f.pb.toList.map V.ref ++ [V.ref f.cb])[i]? = some x) : ∃ b rows, x = .ref b ∧ p.blocks[i]? = some rows ∧ Blk H b rows := by
  rcases F.pre with ⟨e1, e2⟩ | ⟨b, rows, e1, e2, e3⟩
  · rw [e1] at h
    unfold PF.blocks
    rw [e2]
    match i, h with
    | 0, h =>
      cases h
      exact ⟨_, _, rfl, rfl, F.cur⟩
    | i + 1, h => cases h
  · rw [e1] at h
    unfold PF.blocks
    rw [e2]
    match i, h with
    | 0, h =>
      cases h
      exact ⟨_, _, rfl, rfl, e3⟩
    | 1, h =>
      cases h
      exact ⟨_, _, rfl, rfl, F.cur⟩
    | i + 2, h => cases h
theorem FrAt.lenP {C : Addr} {H : Hp} {f : FA} {p : PF} (F : FrAt C H f p) : (f.pb.toList.map V.ref ++ [V.ref f.cb]).length = p.blocks.length ∧ p.blocks.length ≤ 2 ∧ p.blocks.length = if p.pre.isSome = true then 2 else 1 := by
  unfold PF.blocks
  rcases F.pre with ⟨e1, e2⟩ | ⟨b, rows, e1, e2, _⟩
  · rw [e1, e2]; exact ⟨rfl, by show 1 ≤ 2; decide, rfl⟩
  · rw [e1, e2]; exact ⟨rfl, by show 2 ≤ 2; decide, rfl⟩
/-- Frame(head) -/
def spFrame (C : Addr) : Sp := fun vs H Q _ => ∃ (a dx : Addr) (v : V), vs = [.ref a, v] ∧ H a = some (.ins C dx []) ∧
  ∀ H' b c, H b = none → H c = none → b ≠ c → H' a = some (.ins C dx [("head", v), ("blocks", .ref b)]) → H' b = some (.lst [.ref c]) → H' c = some (.lst []) → SX a H H' → Q .non H'
theorem ok_frame (T : Txt K mg) : FnOk P w K mg base CX0 1 T.f_Frame_init T.fd_Frame_init ["self", "head"] (spFrame T.C_Frame) := by
  refine T.F_Frame_init.ok sc_Frame_init (fun vs H Q E h => ?_) (fun cdv A outer s H vs Q E hr h => ?_)
  · obtain ⟨a, dx, v, rfl, _⟩ := h
    rfl
  · obtain ⟨a, dx, v, rfl, hA, k⟩ := h
    refine ⟨_, (pss_cons (ps_fld (pv 0) (pv 1) rfl)
      (pss_one (ps_fld (pv 0) (pe_lst (pa_cons (pe_lst pa_nil) pa_nil)) rfl))), ?_⟩
    refine ⟨_, rfl, _, rfl, a, T.C_Frame, dx, [], rfl, hA, T.cl_Frame, T.at_Frame_head, by decide, ?_⟩
    refine ⟨(by show 0 ≤ sizeLine; decide), fun c hc => ⟨(by show 1 ≤ sizeLine; decide), fun b hb => ?_⟩⟩
    have nca : c ≠ a := fun e => by rw [e, upd_same] at hc; cases hc
    have nbc : b ≠ c := fun e => by rw [e, upd_same] at hb; cases hb
    have hb1 := hb
    rw [upd_ne nbc] at hb1
    have nba : b ≠ a := fun e => by rw [e, upd_same] at hb1; cases hb1
    rw [upd_ne nba] at hb1
    have hc1 := hc
    rw [upd_ne nca] at hc1
    refine ⟨_, rfl, a, T.C_Frame, dx, [("head", v)], rfl, ?_, T.cl_Frame, T.at_Frame_blocks, (by show 1 < 1000; decide), ?_⟩
    · rw [upd_ne nba.symm, upd_ne nca.symm, upd_same]; rfl
    · refine k _ b c hb1 hc1 nbc upd_same ?_ ?_ fun x o nx e => ?_
      · rw [upd_ne nba, upd_same]
      · rw [upd_ne nca, upd_ne nbc.symm, upd_same]
      · rw [upd_ne nx, upd_ne (ne_of_none e hb1), upd_ne (ne_of_none e hc1), upd_ne nx]
        exact e
/-- what a method of a frame says -/
def spFr (C : Addr) (g : PF → Bool) : Sp := fun vs H Q _ => ∃ (f : FA) (p : PF), vs = [.ref f.fa] ∧ FrAt C H f p ∧ ∀ H', Same H H' → Q (.bl (g p)) H'
theorem ok_compl (T : Txt K mg) : FnOk P w K mg base CX0 1 T.f_Frame_is_complete T.fd_Frame_is_complete ["self"] (spFr T.C_Frame PF.complete) := by
  refine T.F_Frame_is_complete.ok sc_Frame_is_complete (fun vs H Q E h => ?_) (fun cdv A outer s H vs Q E hr h => ?_)
  · obtain ⟨f, p, rfl, _⟩ := h
    rfl
  · obtain ⟨f, p, rfl, F, k⟩ := h
    refine ⟨_, (pss_one (ps_ret (pe_and (pe_cmpR (op_neNilH (K := K) hr.units) (pe_ix (ix_listK (K := K)) (pe_fldK (K := K) (pv 0)) (pe_un un_neg pe_int) (fun _ _ => rfl)) (pe_lst pa_nil) (nomark _)) (pe_one (pe_or (pe_cmpR op_ne (pe_ix (ix_tupK (K := K)) (pe_fldK (K := K) (pv 0)) pe_int (fun _ _ => rfl)) pe_str (nomark _)) (pe_one (pe_cmpR op_eq (pe_callB (call_lenN (K := K)) (by rfl) T.z_len (by decide +kernel) (pa_cons (pe_fldK (K := K) (pv 0)) pa_nil)) pe_int (nomark _)))))))), ?_⟩
    obtain ⟨ha, vs, ehv, hh, hvs⟩ := head_at F.head
    obtain ⟨ys, hy, hys⟩ := F.cur
    have lys := hys.at.len
    refine ⟨_, rfl, f.fa, _, f.df, _, _, rfl, F.ins, T.cl_Frame, T.at_Frame_blocks, rfl, _, rfl, f.ba, _, _, _, rfl, rfl, SqL.at F.blocks, atI_last _ _, (by show 0 ≤ sizeLine; decide), fun z0 hz0 => ?_⟩
    have sz := same_new (o := .lst []) hz0
    refine ⟨f.cb, z0, ys, rfl, rfl, SqL.at (sz _ _ hy), SqL.at upd_same, _, rfl, ?_⟩
    have k' := k _ sz
    have F' := F.ch (Ch.same (L := []) sz) (fun _ _ => by simp)
    cases hc : p.cur with
    | nil =>
      have : ys = [] := List.length_eq_zero_iff.mp (by rw [lys, hc]; rfl)
      subst this
      refine iteF ?_
      unfold PF.complete at k'
      rw [hc] at k'
      exact k'
    | cons d ds =>
      have : ys.isEmpty = false := by
        cases ys with
        | nil => rw [hc] at lys; cases lys
        | cons _ _ => rfl
      refine iteDT (by rw [this]; rfl) ?_
      have k2 : Q (.bl (decide (p.word ≠ "try") || p.pre.isSome)) (upd H z0 (.lst [])) := by
        unfold PF.complete at k'
        rw [hc] at k'
        exact k'
      have ins' := F'.ins
      rw [ehv] at ins'
      refine ⟨_, rfl, f.fa, _, f.df, _, _, rfl, ins', T.cl_Frame, T.at_Frame_head, rfl, ha, _, _, _, rfl, rfl, SqT.at (sz _ _ hh), atI_nat (j := 0) rfl, rfl, _, rfl, ?_⟩
      by_cases ht : p.word = "try"
      · refine iteDF (by rw [ht]; rfl) ?_
        refine ⟨_, rfl, f.fa, _, f.df, _, _, rfl, ins', T.cl_Frame, T.at_Frame_blocks, rfl, _, _, rfl, .inl ⟨_, SqL.at F'.blocks, rfl⟩, rfl, ?_⟩
        rw [F'.lenB]
        rw [decide_eq_false (by simp [ht]), Bool.false_or] at k2
        cases hp : p.pre.isSome with
        | true => rw [hp] at k2; exact k2
        | false => rw [hp] at k2; exact k2
      · refine iteDT ?_ ?_
        · rw [Bool.not_eq_true', decide_eq_false_iff_not]
          intro e
          injection e with e
          exact ht e
        · rw [decide_eq_true ht, Bool.true_or] at k2
          exact k2
end
end Sn

/-! ## d.get(k) of a dict that stands in the module's text -/
namespace Sn
open PySem PySem.Spec PyProof.Rows L2
def tKGet1 (K : PySem.W.Frag) (w : World) (td ty : TE) : TE := fun σ H Q => td σ H fun x H1 => ∃ a es n, x = .ref a ∧ KDict K w a es n ∧ ty σ H1 fun y H2 => ∃ z, y = .str z ∧
  ((PySem.W.nsIn K a z = some none ∧ Q .non H2) ∨ ∃ u v, PySem.W.nsIn K a z = some (some u) ∧ RelV v u ∧ Q v H2)
section
variable {X : Cx} {o e : Expr} {apos cpos : Pos} {td ty : TE}
theorem pe_kget1 {K : PySem.W.Frag} {w : World} (hK : X.K = K) (hw : X.w = w) (ho : PE X o td) (he : PE X e ty) (m : M1 X o "get" apos e cpos) : PE X (.Call (.Attribute o "get" apos) [e] [] cpos) (tKGet1 K w td ty) := by
  subst hK
  subst hw
  refine ⟨fun pins s σ H Q I h => ?_⟩
  refine wpAny_Call_method m.base m.few m.line PySem.F.plainAttrs_dict PySem.F.slot_dict_get PySem.F.type_dict_get (thn (ho.run pins s σ H _ I h) fun u s1 ⟨x, H1, I1, rx, a, es, n, ex, D, q1⟩ => ?_)
  subst ex
  obtain rfl : u = Value.ref a := rx
  have mp := PySem.W.mapOf_K (prog := X.prog) (w := X.w) I1.kIn D.at_ D.lit
  refine ⟨mp.typeIs, fun b q => ?_, ?_⟩
  · cases q
    exact ⟨_, I1.kIn _ _ D.at_, rfl⟩
  rw [m.trees]
  refine Calls.callWith_builtin rfl (Calls.evalArgs_plain (Calls.spliced_cons (thn (he.run pins s1 σ H1 _ I1 q1) fun iv s2 ⟨y, H2, I2, ry, z, ez, q2⟩ => Calls.spliced_nil ?_)))
  subst ez
  obtain ⟨t, rfl⟩ := ry
  have mp2 := PySem.W.mapOf_K (prog := X.prog) (w := X.w) I2.kIn D.at_ D.lit
  refine call_meetsIn PySem.F.slot_dict_get mp2.typeIs PySem.F.entry_dict_get (PySem.F.args_dict_get_2 _ _) (meets_dict_get (strKind X.prog X.w) a (PySem.strKind_is X.prog X.w z t) D.low) ⟨_, mp2, ?_⟩
  rcases q2 with ⟨e0, q⟩ | ⟨u0, v0, e0, r0, q⟩
  · rw [PySem.W.find_K D.at_ e0]
    exact ⟨.non, H2, I2.tok _, rfl, q⟩
  · rw [PySem.W.find_K D.at_ e0]
    exact ⟨v0, H2, I2.tok _, r0, q⟩
end
end Sn

/-! ## tuple(xs) and t[lo:hi] in a comprehension: the knowledge named -/
namespace Sn
open PySem PySem.Spec PyProof.Rows L2
section
variable {X : Cx}
theorem call_tupleN {K : PySem.W.Frag} (hK : X.K = K := by rfl) : CallR X (.type "tuple") (fun xs H Q => ∃ p ys, xs = [.ref p] ∧ ((SqL K H p ys ∧ ∀ l, H l = none → Q (.ref l) (upd H l (.tup ys))) ∨ (SqT K H p ys ∧ Q (.ref p) H))) := by
  subst hK
  exact call_tuple_of
theorem sl_tupN {K : PySem.W.Frag} (hK : X.K = K := by rfl) : SlR X (rSlA K) := by
  subst hK
  exact sl_tupA
end
end Sn

/-! ## Frames: may_go_on, whole -/
namespace Sn
open PySem PySem.Spec PyProof.Rows L2 TL
section
variable {P : Program} {w : World} {K : PySem.W.Frag} {mg : Str → Option Value} {base : Heap}
theorem in_strs {H : Hp} {f : Addr} {l : List Str} {z : Str} {Q : VK} (h : SqL K H f (l.map V.str) ∨ SqT K H f (l.map V.str)) (q : Q (.bl (decide (z ∈ l))) H) : rIn K false (.str z) (.ref f) H Q := by
  refine ⟨f, _, rfl, h, rfl, flat_strs _, ?_⟩
  rw [inV_strs]
  exact q
theorem notin_strs {H : Hp} {f : Addr} {l : List Str} {z : Str} {Q : VK} (h : SqL K H f (l.map V.str) ∨ SqT K H f (l.map V.str)) (q : Q (.bl (!decide (z ∈ l))) H) : rIn K true (.str z) (.ref f) H Q := by
  refine ⟨f, _, rfl, h, rfl, flat_strs _, ?_⟩
  rw [inV_strs]
  exact q
theorem second_of (T : Txt K mg) {z : Str} (h : z ∈ openers) : (PySem.W.nsIn K T.a_SECONDS z = some none ∧ second z = none) ∨ ∃ y t, PySem.W.nsIn K T.a_SECONDS z = some (some (.str y t)) ∧ second z = some y := by
  simp only [openers, List.mem_cons, List.not_mem_nil, or_false] at h
  rcases h with rfl | rfl | rfl | rfl | rfl
  · exact .inl ⟨T.m_SECONDS_0, by decide +kernel⟩
  · obtain ⟨t, e⟩ := T.k_SECONDS_0
    exact .inr ⟨_, t, e, by decide +kernel⟩
  · obtain ⟨t, e⟩ := T.k_SECONDS_1
    exact .inr ⟨_, t, e, by decide +kernel⟩
  · exact .inl ⟨T.m_SECONDS_1, by decide +kernel⟩
  · obtain ⟨t, e⟩ := T.k_SECONDS_2
    exact .inr ⟨_, t, e, by decide +kernel⟩
def spGo (C : Addr) : Sp := fun vs H Q _ => ∃ (f : FA) (p : PF) (z : Str), vs = [.ref f.fa, .str z] ∧ FrAt C H f p ∧ ∀ H', Same H H' → Q (.bl (p.goes z)) H'
theorem ok_may (T : Txt K mg) (hD : DcOk w T) : FnOk P w K mg base CX0 1 T.f_Frame_may_go_on T.fd_Frame_may_go_on ["self", "line"] (spGo T.C_Frame) := by
  refine T.F_Frame_may_go_on.ok sc_Frame_may_go_on (fun vs H Q E h => ?_) (fun cdv A outer s H vs Q E hr h => ?_)
  · obtain ⟨f, p, z, rfl, _⟩ := h
    rfl
  · obtain ⟨f, p, z, rfl, F, k⟩ := h
    refine ⟨_, (pss_one (ps_ret (pe_and (pe_cmpR op_eq (pe_callB (call_lenN (K := K)) (by rfl) T.z_len (by decide +kernel) (pa_cons (pe_fldK (K := K) (pv 0)) pa_nil)) pe_int (nomark _)) (pe_and (pe_cmpR (op_neNilH (K := K) hr.units) (pe_ix (ix_listK (K := K)) (pe_fldK (K := K) (pv 0)) pe_int (fun _ _ => rfl)) (pe_lst pa_nil) (nomark _)) (pe_one (pe_cmpR op_eq (pe_kget1 rfl rfl (pe_glob (v := .ref T.a_SECONDS) rfl T.c_SECONDS rfl) (pe_ix (ix_tupK (K := K)) (pe_fldK (K := K) (pv 0)) pe_int (fun _ _ => rfl)) ⟨by rfl, by rfl, by rfl, by rfl⟩) (pv 1) (nomark _))))))), ?_⟩
    obtain ⟨ha, vs, ehv, hh, hvs⟩ := head_at F.head
    obtain ⟨ys, hy, hys⟩ := F.cur
    have lys := hys.at.len
    refine ⟨_, rfl, f.fa, _, f.df, _, _, rfl, F.ins, T.cl_Frame, T.at_Frame_blocks, rfl, _, _, rfl, .inl ⟨_, SqL.at F.blocks, rfl⟩, rfl, _, rfl, ?_⟩
    rw [F.lenB]
    have q0 := k _ (Same.refl H)
    rcases F.pre with ⟨e1, e2⟩ | ⟨b, rows, e1, e2, _⟩
    · rw [e2]
      refine iteT ?_
      have hb := F.blocks
      rw [e1] at hb
      refine ⟨_, rfl, f.fa, _, f.df, _, _, rfl, F.ins, T.cl_Frame, T.at_Frame_blocks, rfl, f.ba, _, _, _, rfl, rfl, SqL.at hb, atI_nat (j := 0) rfl, (by show 0 ≤ sizeLine; decide), fun z0 hz0 => ?_⟩
      have sz := same_new (o := .lst []) hz0
      refine ⟨f.cb, z0, ys, rfl, rfl, SqL.at (sz _ _ hy), SqL.at upd_same, _, rfl, ?_⟩
      have k' := k _ sz
      unfold PF.goes at k'
      rw [e2] at k'
      cases hc : p.cur with
      | nil =>
        have : ys = [] := List.length_eq_zero_iff.mp (by rw [lys, hc]; rfl)
        subst this
        refine iteF ?_
        rw [hc] at k'
        exact k'
      | cons d ds =>
        have : ys.isEmpty = false := by
          cases ys with
          | nil => rw [hc] at lys; cases lys
          | cons _ _ => rfl
        refine iteDT (by rw [this]; rfl) ?_
        rw [hc] at k'
        have F' := F.ch (Ch.same (L := []) sz) (fun _ _ => by simp)
        have ins' := F'.ins
        rw [ehv] at ins'
        refine ⟨T.a_SECONDS, _, _, rfl, ⟨T.l_SECONDS, hD, T.lo_SECONDS⟩, _, rfl, f.fa, _, f.df, _, _, rfl, ins', T.cl_Frame, T.at_Frame_head, rfl, ha, _, _, _, rfl, rfl, SqT.at (sz _ _ hh), atI_nat (j := 0) rfl, p.word, rfl, ?_⟩
        rcases second_of T F.op with ⟨e3, e4⟩ | ⟨y, t, e3, e4⟩
        · refine .inl ⟨e3, _, rfl, rfl, ?_⟩
          rw [e4] at k'
          exact k'
        · refine .inr ⟨_, .str y, e3, ⟨t, rfl⟩, _, rfl, rfl, ?_⟩
          rw [e4] at k'
          have e5 : decide (V.str y = V.str z) = decide (some y = some z) := by
            rw [decide_eq_decide]
            constructor
            · intro e
              injection e with e
              rw [e]
            · intro e
              injection e with e
              rw [e]
          show Q (.bl _) _
          rw [e5]
          exact k'
    · rw [e2]
      unfold PF.goes at q0
      rw [e2] at q0
      exact iteF q0
def spWhole (C : Addr) : Sp := fun vs H Q _ => ∃ (f : FA) (p : PF), vs = [.ref f.fa] ∧ FrAt C H f p ∧ ∀ v H', Same H H' → St1 H' v p.whole → Q v H'
theorem ok_whole (T : Txt K mg) : FnOk P w K mg base CX0 1 T.f_Frame_whole T.fd_Frame_whole ["self"] (spWhole T.C_Frame) := by
  refine T.F_Frame_whole.ok sc_Frame_whole (fun vs H Q E h => ?_) (fun cdv A outer s H vs Q E hr h => ?_)
  · obtain ⟨f, p, rfl, _⟩ := h
    rfl
  · obtain ⟨f, p, rfl, F, k⟩ := h
    refine ⟨_, (pss_cons (ps_setLc (i := 1) (own := [("block", 2)]) (g := gName 2) rfl sc_Frame_whole.nd rfl rfl (sw_true rfl rfl rfl (by decide +kernel)) (pi_list (pe_fldK (K := K) (pv 0))) (blkOk_by (own := [("block", 2)]) (N := n_Frame_whole) (sc := defScope s_Frame_whole) (by decide +kernel)) (fun _ _ _ _ _ => (pg_name (i := 2) sc_Frame_whole.nd rfl (Or.inl rfl))) (fun _ _ _ _ _ => pts_nil) (fun _ _ _ _ _ => (pe_callTy (call_tupleN (K := K)) (by rfl) T.z_tuple (by decide +kernel) (pa_cons (pv 2) pa_nil))))
      (pss_cons (ps_if (PW.pt (pw_and (pt_cmpR (op_in_seqK (K := K)) (pe_ix (ix_tupK (K := K)) (pe_fldK (K := K) (pv 0)) pe_int (fun _ _ => rfl)) (pe_tup (pa_cons pe_str (pa_cons pe_str pa_nil))) (by rfl)) (pw_and1 (pt_cmpR op_eq (pe_callB (call_lenN (K := K)) (by rfl) T.z_len (by decide +kernel) (pa_cons (pv 1) pa_nil)) pe_int (nomark _)))))
        (pss_one (ps_expr (pe_bm PySem.F.plainAttrs_list PySem.F.slot_list_append PySem.F.type_list_append mt_append (pv 1) (pa_cons (pe_tup pa_nil) pa_nil))))
        pss_nil)
      (pss_one (ps_ret (pe_tup (StX.pa_star (pe_fldK (K := K) (pv 0)) (StX.pa_star (pv 1) pa_nil))))))), ?_⟩
    obtain ⟨ha, vs, ehv, hh, hvs⟩ := head_at F.head
    obtain ⟨l1, l2, l3⟩ := F.lenP
    have few := F.few
    have lvs := hvs.at.len
    refine ⟨_, rfl, f.fa, _, f.df, _, _, rfl, F.ins, T.cl_Frame, T.at_Frame_blocks, rfl, f.ba, rfl, ⟨_, SqL.at F.blocks⟩, fun D hD => ?_⟩
    refine lc_it (walk_list (K := K) (a := f.ba) (xs := f.pb.toList.map V.ref ++ [V.ref f.cb])) (fun i H3 => ∃ acc, Same H H3 ∧ H3 D = some (.lst acc) ∧ StA H3 acc ((p.blocks.take i).map PyData.tuple)) ⟨[], same_new hD, upd_same, .nil⟩ (fun i H3 _ ⟨_, s3, _⟩ => SqL.at (s3 _ _ F.blocks)) ?_ ?_
    · rintro i x H3 H4 hi ⟨acc, s3, hD3, hacc⟩ ⟨rfl, hx⟩
      obtain ⟨b, rows, rfl, hrow, ys, hy, hys⟩ := F.blk hx
      refine ⟨rfl, ?_⟩
      refine ⟨_, rfl, b, ys, rfl, .inl ⟨SqL.at (s3 _ _ hy), fun t ht => ?_⟩⟩
      have st := same_new (o := .tup ys) ht
      refine ⟨acc, st _ _ hD3, small1000 ?_, acc ++ [.ref t], same_at (s3.trans st) hD, upd_same, ?_⟩
      · have := hacc.at.len
        rw [List.length_map, List.length_take] at this
        omega
      · rw [takes hrow, List.map_append]
        exact ((hacc.mv (MvT.same st)).app (.cons (St1.tup ht (hys.mv (MvT.same s3))) .nil)).mv (MvT.put (st _ _ hD3))
    · rintro H3 ⟨acc, s3, hD3, hacc⟩
      rw [l1, List.take_length] at hacc
      have lacc : acc.length = p.blocks.length := by
        have := hacc.at.len
        rw [List.length_map] at this
        exact this
      have fin : ∀ H4 acc2, Same H H4 → H4 D = some (.lst acc2) → StA H4 acc2 (p.wholes.map PyData.tuple) → acc2.length ≤ 3 →
          tRet (tTup (StX.tStar K (tFld K (tVar 0) "head") (StX.tStar K (tVar 1) tNil))) { nx := fun _ H' => Q .non H', rt := Q } [some (.ref f.fa), some (.ref D), none] H4 := by
        intro H4 acc2 s4 hD4 hacc2 l4
        have ins4 := s4 _ _ F.ins
        rw [ehv] at ins4
        refine ⟨_, rfl, f.fa, _, f.df, _, _, rfl, ins4, T.cl_Frame, T.at_Frame_head, rfl, ha, _, rfl, .inl (SqT.at (s4 _ _ hh)), _, rfl, D, _, rfl, .inr (SqL.at hD4), ?_⟩
        refine ⟨Nat.le_of_lt (small1000 (by simp; omega)), fun t ht => ?_⟩
        refine k _ _ (s4.trans (same_new ht)) ?_
        have := St1.tup ht (StA.cons (.str p.word) ((hvs.mv (MvT.same s4)).app hacc2))
        unfold PF.whole
        simpa using this
      have ins3 := s3 _ _ F.ins
      rw [ehv] at ins3
      refine ⟨_, rfl, f.fa, _, f.df, _, _, rfl, ins3, T.cl_Frame, T.at_Frame_head, rfl, ha, _, _, _, rfl, rfl, SqT.at (s3 _ _ hh), atI_nat (j := 0) rfl, (by show 2 ≤ sizeLine; decide), fun t0 ht0 => ?_⟩
      have st0 := same_new (o := .tup [.str "if", .str "there"]) ht0
      have s4 := s3.trans st0
      refine in_strs (l := ["if", "there"]) (.inr (SqT.at upd_same)) ⟨_, rfl, ?_⟩
      have hD4 := st0 _ _ hD3
      by_cases hw : p.word ∈ (["if", "there"] : List Str)
      · refine iteDT (decide_eq_true hw) ?_
        refine ⟨_, rfl, _, _, rfl, .inl ⟨_, SqL.at hD4, rfl⟩, rfl, _, rfl, ?_⟩
        rw [lacc, l3]
        have hw2 : (decide (p.word = "if") || decide (p.word = "there")) = true := by
          simp only [List.mem_cons, List.not_mem_nil, or_false] at hw
          rcases hw with h | h
          · rw [decide_eq_true h]; rfl
          · rw [decide_eq_true h, Bool.or_true]
        cases hp : p.pre.isSome with
        | true =>
          refine iteF (fin _ acc s4 hD4 ?_ (by omega))
          unfold PF.wholes PF.more
          rw [hp, Bool.not_true, Bool.and_false, if_neg (by decide), List.append_nil]
          exact hacc.mv (MvT.same st0)
        | false =>
          refine iteT ?_
          refine ⟨_, rfl, .inl ⟨rfl, _, SqL.at hD4⟩, (by show 0 ≤ sizeLine; decide), fun t1 ht1 => ?_⟩
          have st1 := same_new (o := .tup []) ht1
          refine ⟨D, _, _, rfl, rfl, st1 _ _ hD4, small1000 (by omega), ?_⟩
          refine fin _ (acc ++ [.ref t1]) (same_at (s4.trans st1) hD) upd_same ?_ (by rw [List.length_append]; show acc.length + 1 ≤ 3; omega)
          unfold PF.wholes PF.more
          rw [hp, hw2, if_pos (by rfl), List.map_append]
          exact ((hacc.mv ((MvT.same st0).trans (MvT.same st1))).app (.cons (St1.tup ht1 .nil) .nil)).mv (MvT.put (st1 _ _ hD4))
      · refine iteDF (decide_eq_false hw) (iteF (fin _ acc s4 hD4 ?_ (by omega)))
        have hw2 : (decide (p.word = "if") || decide (p.word = "there")) = false := by
          simp only [List.mem_cons, List.not_mem_nil, or_false, not_or] at hw
          rw [decide_eq_false hw.1, decide_eq_false hw.2]; rfl
        unfold PF.wholes PF.more
        rw [hw2, Bool.false_and, if_neg (by decide), List.append_nil]
        exact hacc.mv (MvT.same st0)
end
end Sn

/-! ## The reader: keep, shut -/
namespace Sn
open PySem PySem.Spec PyProof.Rows L2 TL
theorem nd_cur {ak af : Addr} {f : FA} {fs : List FA} (nd : (ak :: af :: (f :: fs).flatMap FA.own).Nodup) :
    ak ≠ f.cb ∧ af ≠ f.cb ∧ f.ba ≠ f.cb ∧ (∀ b, f.pb = some b → b ≠ f.cb) ∧ ∀ g ∈ fs, ∀ b ∈ g.own, b ≠ f.cb := by
  rw [List.flatMap_cons, List.nodup_cons, List.nodup_cons, List.nodup_append] at nd
  obtain ⟨h1, h2, h3, h4, h5⟩ := nd
  have hc : f.cb ∈ f.own := by simp [FA.own, FA.bs]
  unfold FA.own at h3
  rw [List.nodup_cons] at h3
  unfold FA.bs at h3
  rw [List.nodup_append] at h3
  refine ⟨fun e => h1 ?_, fun e => h2 ?_, fun e => h3.1 ?_, fun b hb e => ?_, fun g hg b hb e => ?_⟩
  · rw [e]
    exact List.mem_cons.mpr (.inr (List.mem_append.mpr (.inl hc)))
  · rw [e]
    exact List.mem_append.mpr (.inl hc)
  · rw [e]; simp
  · exact h3.2.2.2 b (by rw [hb]; simp) f.cb (by simp) e
  · exact h5 f.cb hc b (List.mem_flatMap.mpr ⟨g, hg, hb⟩) e.symm
theorem nd_af {ak af : Addr} {fs : List FA} (nd : (ak :: af :: fs.flatMap FA.own).Nodup) : ak ≠ af ∧ (∀ g ∈ fs, ∀ b ∈ g.own, b ≠ af) ∧ ∀ g ∈ fs, ∀ b ∈ g.own, b ≠ ak := by
  rw [List.nodup_cons, List.nodup_cons] at nd
  obtain ⟨h1, h2, _⟩ := nd
  refine ⟨fun e => h1 (by rw [e]; simp), fun g hg b hb e => h2 (by rw [← e]; exact List.mem_flatMap.mpr ⟨g, hg, hb⟩), fun g hg b hb e => h1 ?_⟩
  rw [← e]
  exact List.mem_cons.mpr (.inr (List.mem_flatMap.mpr ⟨g, hg, hb⟩))
theorem nd_drop {ak af : Addr} {f : FA} {fs : List FA} (nd : (ak :: af :: (f :: fs).flatMap FA.own).Nodup) : (ak :: af :: fs.flatMap FA.own).Nodup := by
  rw [List.flatMap_cons, List.nodup_cons, List.nodup_cons, List.nodup_append] at nd
  obtain ⟨h1, h2, h3, h4, h5⟩ := nd
  rw [List.nodup_cons, List.nodup_cons]
  refine ⟨fun h => h1 ?_, fun h => h2 ?_, h4⟩
  · rcases List.mem_cons.mp h with e | e
    · exact List.mem_cons.mpr (.inl e)
    · exact List.mem_cons.mpr (.inr (List.mem_append.mpr (.inr e)))
  · exact List.mem_append.mpr (.inr h)
theorem FrAll.unc {C : Addr} {H : Hp} {fs : List FA} {p : PF} {ps : List PF} (h : FrAll C H fs (p :: ps)) : ∃ f gs, fs = f :: gs ∧ FrAt C H f p ∧ FrAll C H gs ps := by
  cases h with
  | cons a b => exact ⟨_, _, rfl, a, b⟩
theorem shutN_stop {R : PR} {lv : Nat} (h : R.frames.length ≤ lv) : ∀ n, R.shutN lv n = some R
  | 0 => rfl
  | n + 1 => by
    show (if R.frames.length ≤ lv then some R else _) = _
    rw [if_pos h]
theorem shutN_go {R : PR} {lv n : Nat} {p : PF} {ps : List PF} (h : lv < R.frames.length) (e : R.frames = p :: ps) : R.shutN lv (n + 1) = if p.complete = true then ({ R with frames := ps } : PR).keep p.whole |>.shutN lv n else none := by
  show (if R.frames.length ≤ lv then some R else match R.frames with
    | [] => some R
    | f :: fs => if f.complete = true then ({ R with frames := fs } : PR).keep f.whole |>.shutN lv n else none) = _
  rw [if_neg (by omega), e]
theorem drop_size {R : PR} {p : PF} {ps : List PF} (e : R.frames = p :: ps) : ({ R with frames := ps } : PR).size + 1 ≤ R.size := by
  unfold PR.size
  rw [e]
  simp [PF.size]
  omega
theorem cur_le {R : PR} {p : PF} {ps : List PF} (e : R.frames = p :: ps) : p.cur.length ≤ R.size := by
  unfold PR.size
  rw [e]
  simp [PF.size]
  omega
theorem kept_le (R : PR) : R.kept.length ≤ R.size := Nat.le_add_right _ _
theorem fr_le (R : PR) : R.frames.length ≤ R.size := by
  have : ∀ l : List PF, l.length ≤ (l.map PF.size).sum := by
    intro l
    induction l with
    | nil => simp
    | cons f fs ih =>
      simp [PF.size]
      omega
  have := this R.frames
  unfold PR.size
  omega
section
variable {P : Program} {w : World} {K : PySem.W.Frag} {mg : Str → Option Value} {base : Heap}
/-- Reader() -/
def spReader (C CF : Addr) : Sp := fun vs H Q _ => ∃ (a dx : Addr), vs = [.ref a] ∧ H a = some (.ins C dx []) ∧ ∀ H', SX a H H' → (∀ H0, Same H0 H → H0 a = none → Rd C CF H0 H' a ⟨[], [], []⟩) → Q .non H'
theorem ok_reader (T : Txt K mg) : FnOk P w K mg base CX0 1 T.f_Reader_init T.fd_Reader_init ["self"] (spReader T.C_Reader T.C_Frame) := by
  refine T.F_Reader_init.ok sc_Reader_init (fun vs H Q E h => ?_) (fun cdv A outer s H vs Q E hr h => ?_)
  · obtain ⟨a, dx, rfl, _⟩ := h
    rfl
  · obtain ⟨a, dx, rfl, hA, k⟩ := h
    refine ⟨_, (pss_cons (ps_fld (pv 0) (pe_lst pa_nil) rfl)
      (pss_cons (ps_fld (pv 0) pe_dnewK rfl)
      (pss_one (ps_fld (pv 0) (pe_lst pa_nil) rfl)))), ?_⟩
    refine ⟨(by show 0 ≤ sizeLine; decide), fun ak hak => ?_⟩
    have na : ak ≠ a := (ne_of_none hA hak).symm
    have s1 := same_new (o := .lst []) hak
    refine ⟨_, rfl, a, T.C_Reader, dx, [], rfl, s1 _ _ hA, T.cl_Reader, T.at_Reader_kept, by decide, ?_⟩
    refine fun ab hab => ?_
    have nb : ab ≠ a := fun e => by rw [e, upd_same] at hab; cases hab
    have hab1 := hab
    rw [upd_ne nb] at hab1
    have nbk : ab ≠ ak := fun e => by rw [e, upd_same] at hab1; cases hab1
    rw [upd_ne nbk] at hab1
    refine ⟨_, rfl, a, T.C_Reader, dx, [("kept", .ref ak)], rfl, ?_, T.cl_Reader, T.at_Reader_bound, (by show 1 < 1000; decide), ?_⟩
    · rw [upd_ne nb.symm, upd_same]; rfl
    refine ⟨(by show 0 ≤ sizeLine; decide), fun af haf => ?_⟩
    have nf : af ≠ a := fun e => by rw [e, upd_same] at haf; cases haf
    have haf1 := haf
    rw [upd_ne nf] at haf1
    have nfb : af ≠ ab := fun e => by rw [e, upd_same] at haf1; cases haf1
    rw [upd_ne nfb, upd_ne nf] at haf1
    have nfk : af ≠ ak := fun e => by rw [e, upd_same] at haf1; cases haf1
    rw [upd_ne nfk] at haf1
    refine ⟨_, rfl, a, T.C_Reader, dx, [("kept", .ref ak), ("bound", .ref ab)], rfl, ?_, T.cl_Reader, T.at_Reader_frames, (by show 2 < 1000; decide), ?_⟩
    · rw [upd_ne nf.symm, upd_same]; rfl
    have sx : SX a H (upd (upd (upd (upd (upd (upd H ak (.lst [])) a (.ins T.C_Reader dx [("kept", .ref ak)])) ab (.dK [])) a (.ins T.C_Reader dx [("kept", .ref ak), ("bound", .ref ab)])) af (.lst [])) a (.ins T.C_Reader dx [("kept", .ref ak), ("bound", .ref ab), ("frames", .ref af)])) := by
      intro b o nb' e
      rw [upd_ne nb', upd_ne (ne_of_none e haf1), upd_ne nb', upd_ne (ne_of_none e hab1), upd_ne nb', upd_ne (ne_of_none e hak)]
      exact e
    refine k _ sx fun H0 s0 h0 => ⟨dx, ak, ab, af, [], ?_⟩
    have none0 : ∀ x, H x = none → H0 x = none := fun x hx => by
      cases e : H0 x with
      | none => rfl
      | some o => rw [s0 _ _ e] at hx; cases hx
    refine ⟨upd_same, ⟨[], ?_, .nil⟩, ?_, ?_, .nil, ?_, fun b o e => sx b o (fun q => by rw [q, h0] at e; cases e) (s0 _ _ e), fun x hx => ?_⟩
    · rw [upd_ne na, upd_ne nfk.symm, upd_ne na, upd_ne nbk.symm, upd_ne na, upd_same]
    · rw [upd_ne nb, upd_ne nfb.symm, upd_ne nb, upd_same]; rfl
    · rw [upd_ne nf, upd_same]; rfl
    · simp
      exact nfk.symm
    · simp at hx
      rcases hx with rfl | rfl | rfl
      · exact none0 _ hab1
      · exact none0 _ hak
      · exact none0 _ haf1
def spKeep (C CF : Addr) : Sp := fun vs H Q _ => ∃ (H0 : Hp) (r : Addr) (R : PR) (v : V) (d : PyData), vs = [.ref r, v] ∧ Rd C CF H0 H r R ∧ St1 H v d ∧ R.size < 1000 ∧ ∀ H', Rd C CF H0 H' r (R.keep d) → Q .non H'
theorem ok_keep (T : Txt K mg) : FnOk P w K mg base CX0 1 T.f_Reader_keep T.fd_Reader_keep ["self", "row"] (spKeep T.C_Reader T.C_Frame) := by
  refine T.F_Reader_keep.ok sc_Reader_keep (fun vs H Q E h => ?_) (fun cdv A outer s H vs Q E hr h => ?_)
  · obtain ⟨H0, r, R, v, d, rfl, _⟩ := h
    rfl
  · obtain ⟨H0, r, R, v, d, rfl, ⟨dr, ak, ab, af, fs, D⟩, hv, hs, k⟩ := h
    refine ⟨_, (pss_one (ps_if (pt_cmpR (op_eqNilH (K := K) hr.units) (pe_fldK (K := K) (pv 0)) (pe_lst pa_nil) (nomark _))
        (pss_one (ps_expr (pe_bm PySem.F.plainAttrs_list PySem.F.slot_list_append PySem.F.type_list_append mt_append (pe_fldK (K := K) (pv 0)) (pa_cons (pv 1) pa_nil))))
        (pss_one (ps_expr (pe_bm PySem.F.plainAttrs_list PySem.F.slot_list_append PySem.F.type_list_append mt_append (pe_ix (ix_listK (K := K)) (pe_fldK (K := K) (pe_ix (ix_listK (K := K)) (pe_fldK (K := K) (pv 0)) (pe_un un_neg pe_int) (fun _ _ => rfl))) (pe_un un_neg pe_int) (fun _ _ => rfl)) (pa_cons (pv 1) pa_nil)))))), ?_⟩
    refine ⟨_, rfl, r, _, dr, _, _, rfl, D.ins, T.cl_Reader, T.at_Reader_frames, rfl, (by show 0 ≤ sizeLine; decide), fun z0 hz0 => ?_⟩
    have sz := same_new (o := .lst []) hz0
    have D := D.same sz
    have hv := hv.mv (MvT.same sz)
    refine ⟨af, z0, _, rfl, rfl, SqL.at D.frames, SqL.at upd_same, _, rfl, ?_⟩
    generalize upd H z0 (.lst []) = H1 at D hv
    cases hf : R.frames with
    | nil =>
      have hfs : fs = [] := by
        have := D.each.len
        rw [hf] at this
        exact List.length_eq_zero_iff.mp this
      subst hfs
      refine iteT ?_
      obtain ⟨ys, hy, hys⟩ := D.kept
      refine ⟨_, rfl, r, _, dr, _, _, rfl, D.ins, T.cl_Reader, T.at_Reader_kept, rfl, .inl ⟨rfl, _, SqL.at hy⟩, _, rfl, ak, _, _, rfl, rfl, hy, small1000 (by have := hys.at.len; have := kept_le R; omega), ?_⟩
      have c := Ch.putL (l' := ys ++ [v]) hy
      refine k _ ⟨dr, ak, ab, af, [], ?_⟩
      have ek : R.keep d = { R with kept := R.kept ++ [d] } := by unfold PR.keep; rw [hf]
      rw [ek]
      obtain ⟨n1, _, _⟩ := nd_af D.nd
      refine ⟨c.ins _ _ _ _ D.ins, ⟨_, upd_same, (hys.app (.cons hv .nil)).mv c.tup⟩, ?_, c.oth _ _ (by simpa using n1.symm) D.frames, by show FrAll _ _ [] R.frames; rw [hf]; exact .nil, D.nd, same_own D.base (D.new _ (by simp)), D.new⟩
      rw [upd_ne (fun e => by have := D.bound; rw [e, hy] at this; cases this)]
      exact D.bound
    | cons p ps =>
      have each := D.each
      rw [hf] at each
      obtain ⟨f, gs, rfl, F, G⟩ := each.unc
      have frames := D.frames
      rw [List.map_cons, List.reverse_cons] at frames
      refine iteDF (by rw [List.map_cons, List.reverse_cons]; simp) ?_
      obtain ⟨ys, hy, hys⟩ := F.cur
      refine ⟨_, rfl, r, _, dr, _, _, rfl, D.ins, T.cl_Reader, T.at_Reader_frames, rfl, _, rfl, af, _, _, _, rfl, rfl, SqL.at frames, atI_last _ _, f.fa, _, f.df, _, _, rfl, F.ins, T.cl_Frame, T.at_Frame_blocks, rfl, _, rfl, f.ba, _, _, _, rfl, rfl, SqL.at F.blocks, atI_last _ _,
        .inl ⟨rfl, _, SqL.at hy⟩, _, rfl, f.cb, _, _, rfl, rfl, hy, small1000 (by have := hys.at.len; have := cur_le hf; omega), ?_⟩
      have c := Ch.putL (l' := ys ++ [v]) hy
      obtain ⟨n1, n2, n3, n4, n5⟩ := nd_cur D.nd
      have ek : R.keep d = { R with frames := { p with cur := p.cur ++ [d] } :: ps } := by unfold PR.keep; rw [hf]
      refine k _ ⟨dr, ak, ab, af, f :: gs, ?_⟩
      rw [ek]
      refine ⟨c.ins _ _ _ _ D.ins, D.kept.ch c (by simpa using n1), ?_, c.oth _ _ (by simpa using n2) D.frames, .cons ⟨c.ins _ _ _ _ F.ins, F.head.mv c.tup, c.oth _ _ (by simpa using n3) F.blocks, ?_, ⟨_, upd_same, (hys.app (.cons hv .nil)).mv c.tup⟩, F.op, F.few⟩
        (G.ch c fun g hg b hb => by simpa using n5 g hg b hb), D.nd, same_own D.base (D.new _ (by simp [FA.own, FA.bs])), D.new⟩
      · rw [upd_ne (fun e => by have := D.bound; rw [e, hy] at this; cases this)]
        exact D.bound
      · rcases F.pre with e | ⟨b, rows, e1, e2, e3⟩
        · exact .inl e
        · exact .inr ⟨b, rows, e1, e2, e3.ch c (by simpa using n4 b e1)⟩
end
end Sn

/-! ## The reader: shut, go_on -/
namespace Sn
open PySem PySem.Spec PyProof.Rows L2 TL
theorem shutN_len {lv : Nat} : ∀ {n : Nat} {R R' : PR}, n = R.frames.length → R.shutN lv n = some R' → R'.frames.length = min R.frames.length lv ∧ R'.size ≤ R.size ∧ R'.bound = R.bound := by
  intro n
  induction n with
  | zero =>
    intro R R' e h
    cases h
    exact ⟨by omega, Nat.le_refl _, rfl⟩
  | succ n ih =>
    intro R R' e h
    by_cases hl : R.frames.length ≤ lv
    · rw [shutN_stop hl] at h
      cases h
      exact ⟨by omega, Nat.le_refl _, rfl⟩
    · cases hf : R.frames with
      | nil => rw [hf] at e; cases e
      | cons p ps =>
        rw [shutN_go (by omega) hf] at h
        split at h
        · obtain ⟨k1, k2, k3⟩ := keep_size ({ R with frames := ps } : PR) p.whole
          have ds := drop_size hf
          rw [hf, List.length_cons] at e
          obtain ⟨i1, i2, i3⟩ := ih (by rw [k3]; show n = ps.length; omega) h
          rw [k3] at i1
          have i1 : R'.frames.length = min ps.length lv := i1
          rw [hf] at hl
          refine ⟨?_, by omega, by rw [i3, k2]⟩
          rw [i1, List.length_cons]
          rw [List.length_cons] at hl
          omega
        · cases h
theorem shut_len {lv : Nat} {R R' : PR} (h : R.shut lv = some R') : R'.frames.length = min R.frames.length lv ∧ R'.size ≤ R.size ∧ R'.bound = R.bound := shutN_len rfl h
theorem none_base {H0 H : Hp} {c : Addr} (s : Same H0 H) (h : H c = none) : H0 c = none := by
  cases e : H0 c with
  | none => rfl
  | some o => rw [s _ _ e] at h; cases h
theorem FrAt.own_at {C : Addr} {H : Hp} {f : FA} {p : PF} (F : FrAt C H f p) : ∀ a ∈ f.own, ∃ o, H a = some o := by
  intro a ha
  simp only [FA.own, FA.bs, List.mem_cons, List.mem_append, List.not_mem_nil, or_false, Option.mem_toList] at ha
  rcases ha with rfl | h | rfl
  · exact ⟨_, F.blocks⟩
  · rcases F.pre with ⟨e, _⟩ | ⟨b, rows, e, _, ys, hy, _⟩
    · rw [e] at h; cases h
    · rw [e] at h
      cases h
      exact ⟨_, hy⟩
  · obtain ⟨ys, hy, _⟩ := F.cur
    exact ⟨_, hy⟩
theorem FrAll.own_at {C : Addr} {H : Hp} {fs : List FA} {ps : List PF} (h : FrAll C H fs ps) : ∀ a ∈ fs.flatMap FA.own, ∃ o, H a = some o := by
  induction h with
  | nil => intro a ha; cases ha
  | cons h1 _ ih =>
    intro a ha
    rw [List.flatMap_cons, List.mem_append] at ha
    rcases ha with h | h
    · exact h1.own_at a h
    · exact ih a h
theorem RdAt.own_at {C CF : Addr} {H0 H : Hp} {r dr ak ab af : Addr} {fs : List FA} {R : PR} (D : RdAt C CF H0 H r dr ak ab af fs R) : ∀ a ∈ ab :: ak :: af :: fs.flatMap FA.own, ∃ o, H a = some o := by
  intro a ha
  simp only [List.mem_cons] at ha
  rcases ha with rfl | rfl | rfl | h
  · exact ⟨_, D.bound⟩
  · obtain ⟨ys, hy, _⟩ := D.kept
    exact ⟨_, hy⟩
  · exact ⟨_, D.frames⟩
  · exact D.each.own_at a h
theorem RdAt.ne_new {C CF : Addr} {H0 H : Hp} {r dr ak ab af c : Addr} {fs : List FA} {R : PR} (D : RdAt C CF H0 H r dr ak ab af fs R) (h : H c = none) : ∀ a ∈ ab :: ak :: af :: fs.flatMap FA.own, a ≠ c := by
  intro a ha e
  obtain ⟨o, ho⟩ := D.own_at a ha
  rw [e, h] at ho
  cases ho
theorem nd_ba {ak af ba cb : Addr} {gs : List FA} (nd : (ak :: af :: ba :: cb :: gs.flatMap FA.own).Nodup) : ak ≠ ba ∧ af ≠ ba ∧ cb ≠ ba ∧ ∀ g ∈ gs, ∀ b ∈ g.own, b ≠ ba := by
  simp only [List.nodup_cons, List.mem_cons, not_or] at nd
  refine ⟨nd.1.2.1, nd.2.1.1, fun e => nd.2.2.1.1 e.symm, fun g hg b hb e => nd.2.2.1.2 ?_⟩
  rw [← e]
  exact List.mem_flatMap.mpr ⟨g, hg, hb⟩
section
variable {P : Program} {w : World} {K : PySem.W.Frag} {mg : Str → Option Value} {base : Heap}
def spShut (C CF : Addr) : Sp := fun vs H Q _ => ∃ (H0 : Hp) (r : Addr) (R : PR) (lv : Nat), vs = [.ref r, .int lv] ∧ Rd C CF H0 H r R ∧ R.size ≤ 1000 ∧ (∀ R', R.shut lv = some R' → ∀ H', Rd C CF H0 H' r R' → Q (.bl true) H') ∧ (R.shut lv = none → ∀ H', Same H0 H' → Q (.bl false) H')
/-- while blocks are ended -/
def ShI (C CF : Addr) (H0 : Hp) (r : Addr) (R : PR) (lv : Nat) (m : Nat) (σ : L2.St) (H1 : Hp) : Prop := ∃ (R1 : PR) (x : Option V), m = R1.frames.length ∧ σ = [some (.ref r), some (.int lv), x] ∧ Rd C CF H0 H1 r R1 ∧ R1.size ≤ 1000 ∧ R.shut lv = R1.shutN lv m
theorem Rd.lenF {K : PySem.W.Frag} {C CF : Addr} {H0 H : Hp} {r dr ak ab af : Addr} {fs : List FA} {R : PR} (D : RdAt C CF H0 H r dr ak ab af fs R) : LenV K (.ref af) H R.frames.length :=
  .inl ⟨_, SqL.at D.frames, by rw [List.length_reverse, List.length_map, D.each.len]⟩
theorem ok_shut (T : Txt K mg) : FnOk P w K mg base CX0 2 T.f_Reader_shut T.fd_Reader_shut ["self", "level"] (spShut T.C_Reader T.C_Frame) := by
  have GK : FnOk P w K mg base CX0 1 T.f_Reader_keep T.fd_Reader_keep ["self", "row"] (spKeep T.C_Reader T.C_Frame) := ok_keep T
  have GW : FnOk P w K mg base CX0 1 T.f_Frame_whole T.fd_Frame_whole ["self"] (spWhole T.C_Frame) := ok_whole T
  have GC : FnOk P w K mg base CX0 1 T.f_Frame_is_complete T.fd_Frame_is_complete ["self"] (spFr T.C_Frame PF.complete) := ok_compl T
  refine T.F_Reader_shut.ok sc_Reader_shut (fun vs H Q E h => ?_) (fun cdv A outer s H vs Q E hr h => ?_)
  · obtain ⟨H0, r, R, lv, rfl, _⟩ := h
    rfl
  · obtain ⟨H0, r, R, lv, rfl, D, hs, kT, kF⟩ := h
    refine ⟨_, (pss_cons (ps_while PassesOwn.never (pt_cmpR op_gt (pe_callB (call_lenN (K := K)) (by rfl) T.z_len (by decide +kernel) (pa_cons (pe_fldK (K := K) (pv 0)) pa_nil)) (pv 1) (nomark _))
        (pss_cons (ps_set (i := 2) sc_Reader_shut.nd rfl (Or.inl rfl) (pe_bm0 PySem.F.plainAttrs_list PySem.F.slot_list_pop PySem.F.type_list_pop mt_pop (pe_fldK (K := K) (pv 0))))
      (pss_cons (ps_if (pt_not (pt_val (pe_meth0 (pv 2) T.cl_Frame T.m_Frame_is_complete (ok_compl T) (hr.mono (by decide)) T.b_Frame_is_complete .nil pass0)))
        (pss_one (ps_ret pe_bl))
        pss_nil)
      (pss_one (ps_expr (pe_meth (pv 0) T.cl_Reader T.m_Reader_keep (ok_keep T) (hr.mono (by decide)) T.b_Reader_keep .nil pass0 (pa_cons (pe_meth0 (pv 2) T.cl_Frame T.m_Frame_whole (ok_whole T) (hr.mono (by decide)) T.b_Frame_whole .nil pass0) pa_nil)))))))
      (pss_one (ps_ret pe_bl))), ?_⟩
    refine ⟨ShI T.C_Reader T.C_Frame H0 r R lv, ⟨_, R, none, rfl, rfl, D, hs, rfl⟩, ?_⟩
    rintro m σ H1 ⟨R1, x, rfl, rfl, ⟨dr, ak, ab, af, fs, D1⟩, hs1, e1⟩
    refine ⟨_, rfl, r, _, dr, _, _, rfl, D1.ins, T.cl_Reader, T.at_Reader_frames, rfl, _, _, rfl, Rd.lenF D1, _, rfl, _, _, rfl, rfl, _, rfl, ?_⟩
    by_cases hl : R1.frames.length ≤ lv
    · refine iteDF (decide_eq_false (by omega)) ?_
      exact kT R1 (by rw [e1, shutN_stop hl]) H1 ⟨dr, ak, ab, af, fs, D1⟩
    · refine iteDT (decide_eq_true (by omega)) ?_
      refine ⟨fun σ' H' => ∃ m', m' < R1.frames.length ∧ ShI T.C_Reader T.C_Frame H0 r R lv m' σ' H', fun σ' H' h => h, ?_⟩
      cases hf : R1.frames with
      | nil => rw [hf] at hl; exact absurd (Nat.zero_le _) hl
      | cons p ps =>
        have each := D1.each
        rw [hf] at each
        obtain ⟨f, gs, rfl, F, G⟩ := each.unc
        have frames := D1.frames
        rw [List.map_cons, List.reverse_cons] at frames
        obtain ⟨n1, n2, n3⟩ := nd_af D1.nd
        refine ⟨_, rfl, r, _, dr, _, _, rfl, D1.ins, T.cl_Reader, T.at_Reader_frames, rfl, .inl ⟨rfl, _, SqL.at frames⟩, af, _, .ref f.fa, rfl, rfl, frames, by simp, ?_⟩
        rw [List.dropLast_concat]
        have c := Ch.putL (l' := (gs.map fun f => V.ref f.fa).reverse) frames
        have F2 := F.ch c fun b hb => by simpa using n2 f (by simp) b hb
        have D2 : RdAt T.C_Reader T.C_Frame H0 (upd H1 af (.lst (gs.map fun f => V.ref f.fa).reverse)) r dr ak ab af gs { R1 with frames := ps } := by
          refine ⟨c.ins _ _ _ _ D1.ins, D1.kept.ch c (by simpa using n1), ?_, upd_same, G.ch c fun g hg b hb => by simpa using n2 g (by simp [hg]) b hb, nd_drop D1.nd, same_own D1.base (D1.new _ (by simp)), fun a ha => D1.new a ?_⟩
          · rw [upd_ne (fun e => by have := D1.bound; rw [e, frames] at this; cases this)]
            exact D1.bound
          · simp only [List.mem_cons, List.flatMap_cons, List.mem_append] at ha ⊢
            rcases ha with h | h | h | h
            · exact .inl h
            · exact .inr (.inl h)
            · exact .inr (.inr (.inl h))
            · exact .inr (.inr (.inr (.inr h)))
        refine ⟨_, rfl, f.fa, f.df, _, rfl, F2.ins, rfl, f, p, rfl, F2, fun H3 s3 => ⟨_, rfl, ?_⟩⟩
        have sg := shutN_go (lv := lv) (n := ps.length) (by omega) hf
        rw [hf, List.length_cons, sg] at e1
        cases hc : p.complete with
        | false =>
          rw [hc, if_neg (by decide)] at e1
          exact iteT (kF e1 H3 (D2.same s3).base)
        | true =>
          rw [hc, if_pos rfl] at e1
          refine iteF ?_
          have F3 := F2.ch (Ch.same (L := []) s3) (fun _ _ => by simp)
          have D3 := D2.same s3
          refine ⟨_, rfl, r, dr, _, rfl, D3.ins, rfl, _, rfl, f.fa, f.df, _, rfl, F3.ins, rfl, f, p, rfl, F3, fun v H4 s4 hv => ?_⟩
          have ds := drop_size hf
          obtain ⟨k1, k2, k3⟩ := keep_size ({ R1 with frames := ps } : PR) p.whole
          refine ⟨H0, r, { R1 with frames := ps }, v, p.whole, rfl, ⟨dr, ak, ab, af, gs, D3.same s4⟩, hv, by omega, fun H5 D5 => ?_⟩
          refine ⟨ps.length, by simp, _, _, by rw [k3], rfl, D5, by omega, e1⟩
def spGoOn (C CF : Addr) : Sp := fun vs H Q _ => ∃ (H0 : Hp) (r : Addr) (R : PR) (z : Str) (lv : Nat), vs = [.ref r, .str z, .int lv] ∧ Rd C CF H0 H r R ∧ R.size ≤ 1000 ∧ (∀ R', R.goOn z lv = some R' → ∀ H', Rd C CF H0 H' r R' → Q (.bl true) H') ∧ (R.goOn z lv = none → ∀ H', Same H0 H' → Q (.bl false) H')
theorem ok_goon (T : Txt K mg) (hD : DcOk w T) : FnOk P w K mg base CX0 3 T.f_Reader_go_on T.fd_Reader_go_on ["self", "line", "level"] (spGoOn T.C_Reader T.C_Frame) := by
  have GS : FnOk P w K mg base CX0 2 T.f_Reader_shut T.fd_Reader_shut ["self", "level"] (spShut T.C_Reader T.C_Frame) := ok_shut T
  have GM : FnOk P w K mg base CX0 1 T.f_Frame_may_go_on T.fd_Frame_may_go_on ["self", "line"] (spGo T.C_Frame) := ok_may T hD
  refine T.F_Reader_go_on.ok sc_Reader_go_on (fun vs H Q E h => ?_) (fun cdv A outer s H vs Q E hr h => ?_)
  · obtain ⟨H0, r, R, z, lv, rfl, _⟩ := h
    rfl
  · obtain ⟨H0, r, R, z, lv, rfl, ⟨dr, ak, ab, af, fs, D⟩, hs, kT, kF⟩ := h
    refine ⟨_, (pss_cons (ps_if (PW.pt (pw_or (pt_cmpR op_ge (pv 2) (pe_callB (call_lenN (K := K)) (by rfl) T.z_len (by decide +kernel) (pa_cons (pe_fldK (K := K) (pv 0)) pa_nil)) (nomark _)) (pw_or (pt_not (pt_val (pe_meth (pv 0) T.cl_Reader T.m_Reader_shut (ok_shut T) (hr.mono (by decide)) T.b_Reader_shut .nil pass0 (pa_cons (pe_op op_add (pv 2) pe_int) pa_nil)))) (pw_or1 (pt_not (pt_val (pe_meth (pe_ix (ix_listK (K := K)) (pe_fldK (K := K) (pv 0)) (pe_un un_neg pe_int) (fun _ _ => rfl)) T.cl_Frame T.m_Frame_may_go_on (ok_may T hD) (hr.mono (by decide)) T.b_Frame_may_go_on .nil pass0 (pa_cons (pv 1) pa_nil))))))))
        (pss_one (ps_ret pe_bl))
        pss_nil)
      (pss_cons (ps_expr (pe_bm PySem.F.plainAttrs_list PySem.F.slot_list_append PySem.F.type_list_append mt_append (pe_fldK (K := K) (pe_ix (ix_listK (K := K)) (pe_fldK (K := K) (pv 0)) (pe_un un_neg pe_int) (fun _ _ => rfl))) (pa_cons (pe_lst pa_nil) pa_nil)))
      (pss_one (ps_ret pe_bl)))), ?_⟩
    refine ⟨_, rfl, _, rfl, r, _, dr, _, _, rfl, D.ins, T.cl_Reader, T.at_Reader_frames, rfl, _, _, rfl, Rd.lenF D, _, _, rfl, rfl, _, rfl, ?_⟩
    by_cases hl : R.frames.length ≤ lv
    · refine iteDT (decide_eq_true (by omega)) (iteT ?_)
      exact kF (by unfold PR.goOn; rw [if_pos hl]) H D.base
    · refine iteDF (decide_eq_false (by omega)) ?_
      have eg : R.goOn z lv = (R.shut (lv + 1)).bind fun R' => R'.second z := by unfold PR.goOn; rw [if_neg hl]
      refine ⟨_, rfl, r, dr, _, rfl, D.ins, rfl, _, rfl, _, _, rfl, rfl, H0, r, R, lv + 1, rfl, ⟨dr, ak, ab, af, fs, D⟩, hs, fun R1 e1 H1 D1 => ⟨_, rfl, iteF ?_⟩, fun e1 H1 s1 => ⟨_, rfl, iteT (iteT ?_)⟩⟩
      · obtain ⟨l1, l2, l3⟩ := shut_len e1
        rw [e1] at eg
        have eg : R.goOn z lv = R1.second z := eg
        obtain ⟨dr, ak, ab, af, fs, D1⟩ := D1
        cases hf : R1.frames with
        | nil => rw [hf] at l1; simp at l1; omega
        | cons p ps =>
          have es : R1.second z = if p.goes z = true then some { R1 with frames := { p with pre := some p.cur, cur := [] } :: ps } else none := by unfold PR.second; rw [hf]
          rw [es] at eg
          have each := D1.each
          rw [hf] at each
          obtain ⟨f, gs, rfl, F, G⟩ := each.unc
          have frames := D1.frames
          rw [List.map_cons, List.reverse_cons] at frames
          refine ⟨_, rfl, r, _, dr, _, _, rfl, D1.ins, T.cl_Reader, T.at_Reader_frames, rfl, _, rfl, af, _, _, _, rfl, rfl, SqL.at frames, atI_last _ _, f.fa, f.df, _, rfl, F.ins, rfl, _, rfl, f, p, z, rfl, F, fun H2 s2 => ⟨_, rfl, ?_⟩⟩
          have D2 := D1.same s2
          have F2 := F.ch (Ch.same (L := []) s2) (fun _ _ => by simp)
          have G2 := G.ch (Ch.same (L := []) s2) (fun _ _ _ _ => by simp)
          have frames2 := s2 _ _ frames
          cases hg : p.goes z with
          | false =>
            rw [hg, if_neg (by decide)] at eg
            exact iteT (kF eg H2 D2.base)
          | true =>
            rw [hg, if_pos rfl] at eg
            refine iteF ?_
            have hp : p.pre = none := by
              unfold PF.goes at hg
              simp only [Bool.and_eq_true, Bool.not_eq_true', Option.isSome_eq_false_iff, Option.isNone_iff_eq_none] at hg
              exact hg.1.1
            have hb : f.pb = none := by
              rcases F.pre with ⟨e, _⟩ | ⟨b, rows, _, e2, _⟩
              · exact e
              · rw [hp] at e2; cases e2
            have blocks := F2.blocks
            rw [hb] at blocks
            refine ⟨_, rfl, r, _, dr, _, _, rfl, D2.ins, T.cl_Reader, T.at_Reader_frames, rfl, _, rfl, af, _, _, _, rfl, rfl, SqL.at frames2, atI_last _ _, f.fa, _, f.df, _, _, rfl, F2.ins, T.cl_Frame, T.at_Frame_blocks, rfl, .inl ⟨rfl, _, SqL.at blocks⟩, (by show 0 ≤ sizeLine; decide), fun c hc => ?_⟩
            have sc := same_new (o := .lst []) hc
            have D3 := D2.same sc
            have F3 := F2.ch (Ch.same (L := []) sc) (fun _ _ => by simp)
            have G3 := G2.ch (Ch.same (L := []) sc) (fun _ _ _ _ => by simp)
            refine ⟨f.ba, _, _, rfl, rfl, sc _ _ blocks, small1000 (by show 1 ≤ 1000; decide), ?_⟩
            have hc0 : H0 c = none := none_base D2.base hc
            have nc := fun a ha => D2.ne_new hc a ha
            have ho : (f :: gs).flatMap FA.own = f.ba :: f.cb :: gs.flatMap FA.own := by rw [List.flatMap_cons]; unfold FA.own FA.bs; rw [hb]; rfl
            have nd := D2.nd
            have new := D2.new
            rw [ho] at nd new nc
            have ch := Ch.putL (l' := [V.ref f.cb, V.ref c]) (sc _ _ blocks)
            obtain ⟨m1, m2, m3, m4⟩ := nd_ba nd
            refine kT _ eg _ ⟨dr, ak, ab, af, ⟨f.fa, f.df, f.hv, f.ba, some f.cb, c⟩ :: gs, ?_⟩
            have ho2 : ((⟨f.fa, f.df, f.hv, f.ba, some f.cb, c⟩ : FA) :: gs).flatMap FA.own = f.ba :: f.cb :: c :: gs.flatMap FA.own := rfl
            refine ⟨ch.ins _ _ _ _ D3.ins, D3.kept.ch ch (by simpa using m1), ?_, ch.oth _ _ (by simpa using m2) D3.frames, .cons ⟨ch.ins _ _ _ _ F3.ins, F3.head.mv ch.tup, ?_, .inr ⟨f.cb, p.cur, rfl, rfl, F3.cur.ch ch (by simpa using m3)⟩, ⟨[], ?_, .nil⟩, F.op, F.few⟩ (G3.ch ch fun g hg b hb => by simpa using m4 g hg b hb), ?_,
              same_own D3.base (new _ (by simp)), fun a ha => ?_⟩
            · rw [upd_ne (fun e => by have := D3.bound; rw [e, sc _ _ blocks] at this; cases this)]
              exact D3.bound
            · exact upd_same
            · show (upd (upd H2 c (.lst [])) f.ba _) c = _
              rw [upd_ne (nc f.ba (by simp)).symm, upd_same]
            · rw [ho2]
              have pm : (c :: (ak :: af :: f.ba :: f.cb :: gs.flatMap FA.own)).Perm (ak :: af :: f.ba :: f.cb :: c :: gs.flatMap FA.own) := (List.perm_middle (a := c) (l₁ := [ak, af, f.ba, f.cb])).symm
              refine pm.nodup_iff.mp (List.nodup_cons.mpr ⟨fun h => ?_, nd⟩)
              exact nc c (List.mem_cons.mpr (.inr h)) rfl
            · rw [ho2] at ha
              by_cases e : a = c
              · rw [e]; exact hc0
              · refine new a ?_
                simp only [List.mem_cons] at ha ⊢
                rcases ha with h | h | h | h | h | h | h
                · exact .inl h
                · exact .inr (.inl h)
                · exact .inr (.inr (.inl h))
                · exact .inr (.inr (.inr (.inl h)))
                · exact .inr (.inr (.inr (.inr (.inl h))))
                · exact absurd h e
                · exact .inr (.inr (.inr (.inr (.inr h))))
      · exact kF (by rw [eg, e1]; rfl) H1 s1
end
end Sn

/-! ## The reader: take_head -/
namespace Sn
open PySem PySem.Spec PyProof.Rows L2 TL
/-- a head: a word first; a name behind a word that binds -/
def HeadOk (d : PyData) : Prop := ∃ w rest, d = .tuple (.str w :: rest) ∧ rest.length ≤ 10 ∧ (w ∈ binders → ∃ n r, rest = .str n :: r)
theorem val_true (ks : List Str) (z : Str) : (valV (trues ks) (Sum.inr z)).isSome = decide (z ∈ ks) := by
  unfold valV trues
  rw [Option.isSome_map, List.find?_map, Option.isSome_map, Bool.eq_iff_iff, List.find?_isSome, decide_eq_true_eq]
  constructor
  · rintro ⟨x, hx, e⟩
    have e2 : (Sum.inr x : Key) = Sum.inr z := by simpa using e
    injection e2 with e2
    exact e2 ▸ hx
  · intro hz
    exact ⟨z, hz, by simp⟩
theorem FrAll.chL {C : Addr} {L : List Addr} {H H' : Hp} {fs : List FA} {ps : List PF} (h : FrAll C H fs ps) (c : Ch L H H') (n : ∀ (a : Addr) (l : List V), H a = some (.lst l) → a ∉ L) : FrAll C H' fs ps := by
  induction h with
  | nil => exact .nil
  | cons F _ ih =>
    refine .cons (F.ch c fun b hb => ?_) ih
    simp only [FA.own, FA.bs, List.mem_cons, List.mem_append, List.not_mem_nil, or_false, Option.mem_toList] at hb
    rcases hb with rfl | h | rfl
    · exact n _ _ F.blocks
    · rcases F.pre with ⟨e, _⟩ | ⟨b, rows, e, _, ys, hy, _⟩
      · rw [e] at h; cases h
      · rw [e] at h
        cases h
        exact n _ _ hy
    · obtain ⟨ys, hy, _⟩ := F.cur
      exact n _ _ hy
section
variable {P : Program} {w : World} {K : PySem.W.Frag} {mg : Str → Option Value} {base : Heap}
def spTHead (C CF : Addr) : Sp := fun vs H Q _ => ∃ (H0 : Hp) (r : Addr) (R : PR) (v : V) (d : PyData) (lv : Nat), vs = [.ref r, v, .int lv] ∧ Rd C CF H0 H r R ∧ St1 H v d ∧ HeadOk d ∧ R.size < 1000 ∧ R.bound.length < 1000 ∧
  (∀ R', R.takeHead d lv = some R' → ∀ H', Rd C CF H0 H' r R' → Q (.bl true) H') ∧ (R.takeHead d lv = none → ∀ H', Same H0 H' → Q (.bl false) H')
theorem ok_thead (T : Txt K mg) : FnOk P w K mg base CX0 3 T.f_Reader_take_head T.fd_Reader_take_head ["self", "head", "level"] (spTHead T.C_Reader T.C_Frame) := by
  have GK : FnOk P w K mg base CX0 1 T.f_Reader_keep T.fd_Reader_keep ["self", "row"] (spKeep T.C_Reader T.C_Frame) := ok_keep T
  have GF : FnOk P w K mg base CX0 1 T.f_Frame_init T.fd_Frame_init ["self", "head"] (spFrame T.C_Frame) := ok_frame T
  obtain ⟨t1, g_MOST_LEVELS⟩ := T.c_MOST_LEVELS
  refine T.F_Reader_take_head.ok sc_Reader_take_head (fun vs H Q E h => ?_) (fun cdv A outer s H vs Q E hr h => ?_)
  · obtain ⟨H0, r, R, v, d, lv, rfl, _⟩ := h
    rfl
  · obtain ⟨H0, r, R, v, d, lv, rfl, ⟨dr, ak, ab, af, fs, D⟩, hv, ⟨wd, rest, rfl, hr1, hbd⟩, hs, hb, kT, kF⟩ := h
    refine ⟨_, (C8.pss_cut (ps_if (pt_cmpR (op_in_seqK (K := K)) (pe_ix (ix_tupK (K := K)) (pv 1) pe_int (fun _ _ => rfl)) (pe_glob (v := .ref T.a_BINDERS) rfl T.c_BINDERS rfl) (by rfl))
        (pss_cons (ps_if (pt_cmp (pc_din (hu_of hr) (pe_ix (ix_tupK (K := K)) (pv 1) pe_int (fun _ _ => rfl)) (pe_fldK (K := K) (pv 0))) (by rfl))
        (pss_one (ps_ret pe_bl))
        pss_nil)
      (pss_one (ps_dput (hu_of hr) (pe_fldK (K := K) (pv 0)) (pe_ix (ix_tupK (K := K)) (pv 1) pe_int (fun _ _ => rfl)) pe_bl rfl)))
        pss_nil)
      (pss_cons (ps_if (pt_cmpR (op_notIn_seqK (K := K)) (pe_ix (ix_tupK (K := K)) (pv 1) pe_int (fun _ _ => rfl)) (pe_glob (v := .ref T.a_OPENERS) rfl T.c_OPENERS rfl) (by rfl))
        (pss_cons (ps_expr (pe_meth (pv 0) T.cl_Reader T.m_Reader_keep (ok_keep T) (hr.mono (by decide)) T.b_Reader_keep .nil pass0 (pa_cons (pv 1) pa_nil)))
      (pss_one (ps_ret pe_bl)))
        pss_nil)
      (pss_cons (ps_if (pt_cmpR op_ge (pv 2) (pe_glob (v := .int 4) rfl g_MOST_LEVELS ⟨_, rfl⟩) (nomark _))
        (pss_one (ps_ret pe_bl))
        pss_nil)
      (pss_cons (ps_expr (pe_bm PySem.F.plainAttrs_list PySem.F.slot_list_append PySem.F.type_list_append mt_append (pe_fldK (K := K) (pv 0)) (pa_cons (pe_make T.mk_Frame (ok_frame T) (hr.mono (by decide)) rfl T.gC_Frame T.b_Frame_init .nil pass0 (pa_cons (pv 1) pa_nil)) pa_nil)))
      (pss_one (ps_ret pe_bl)))))), ?_⟩
    have eW : hdW (.tuple (.str wd :: rest)) = wd := rfl
    refine ⟨fun σ H1 => ∃ R1, σ = [some (.ref r), some v, some (.int lv)] ∧ Rd T.C_Reader T.C_Frame H0 H1 r R1 ∧ St1 H1 v (.tuple (.str wd :: rest)) ∧ R.bind (.tuple (.str wd :: rest)) = some R1 ∧ R1.size < 1000 ∧ R1.frames.length = R.frames.length, ?_, ?_⟩
    · obtain ⟨ha, vs, rfl, hh, hvs⟩ := head_at hv
      refine ⟨_, rfl, ha, _, _, _, rfl, rfl, SqT.at hh, atI_nat (j := 0) rfl, ?_⟩
      dsimp only [tC]
      refine in_strs (l := binders) (.inr (T.q_BINDERS _)) ⟨_, rfl, ?_⟩
      by_cases hw : wd ∈ binders
      · refine iteDT (decide_eq_true hw) ?_
        obtain ⟨nm, rr, rfl⟩ := hbd hw
        obtain ⟨u, us, rfl, hu, hus⟩ := hvs.unc
        have := hu.strV
        subst this
        have hN : hdN (.tuple (.str wd :: .str nm :: rr)) = nm := rfl
        refine ⟨_, rfl, ha, _, _, _, rfl, rfl, SqT.at hh, atI_nat (j := 1) rfl, _, rfl, r, _, dr, _, _, rfl, D.ins, T.cl_Reader, T.at_Reader_bound, rfl, ab, _, rfl, DGet.k (k := Sum.inr nm) D.bound, _, rfl, ?_⟩
        rw [val_true]
        by_cases hm : nm ∈ R.bound
        · refine iteDT (decide_eq_true hm) (kF ?_ H D.base)
          unfold PR.takeHead PR.bind
          rw [eW, hN, if_pos hw, if_pos hm]; rfl
        · refine iteDF (decide_eq_false hm) ?_
          refine ⟨_, rfl, r, _, dr, _, _, rfl, D.ins, T.cl_Reader, T.at_Reader_bound, rfl, _, rfl, ha, _, _, _, rfl, rfl, SqT.at hh, atI_nat (j := 1) rfl, ab, _, rfl, DPut.k (k := Sum.inr nm) D.bound (small1000 (by unfold trues; rw [List.length_map]; omega)), ?_⟩
          rw [put_true, if_neg hm]
          have c := Ch.putD (l' := trues (R.bound ++ [nm])) D.bound
          have nb : ∀ (a : Addr) (l : List V), H a = some (.lst l) → a ∉ [ab] := fun a l e q => by
            rw [List.mem_singleton.mp q, D.bound] at e
            cases e
          refine ⟨{ R with bound := R.bound ++ [nm] }, rfl, ⟨dr, ak, ab, af, fs, ?_⟩, hv.mv c.tup, ?_, hs, rfl⟩
          · refine ⟨c.ins _ _ _ _ D.ins, ?_, upd_same, c.oth _ _ (nb _ _ D.frames) D.frames, D.each.chL c ?_, D.nd, same_own D.base (D.new _ (by simp)), D.new⟩
            · obtain ⟨ys, hy, hys⟩ := D.kept
              exact Blk.ch ⟨ys, hy, hys⟩ c (nb _ _ hy)
            · exact nb
          · unfold PR.bind
            rw [eW, hN, if_pos hw, if_neg hm]
      · refine iteDF (decide_eq_false hw) ⟨R, rfl, ⟨dr, ak, ab, af, fs, D⟩, hv, ?_, hs, rfl⟩
        unfold PR.bind
        rw [eW, if_neg hw]
    · rintro σ H1 ⟨R1, rfl, ⟨dr, ak, ab, af, fs, D1⟩, hv1, eb, hs1, lf⟩
      obtain ⟨ha, vs, rfl, hh, hvs⟩ := head_at hv1
      have et : R.takeHead (.tuple (.str wd :: rest)) lv = R1.put (.tuple (.str wd :: rest)) lv := by
        unfold PR.takeHead
        rw [eb]; rfl
      refine ⟨_, rfl, ha, _, _, _, rfl, rfl, SqT.at hh, atI_nat (j := 0) rfl, ?_⟩
      dsimp only [tC]
      refine notin_strs (l := openers) (.inr (T.q_OPENERS _)) ⟨_, rfl, ?_⟩
      by_cases hw : wd ∈ openers
      · refine iteDF (by rw [decide_eq_true hw]; rfl) ?_
        refine ⟨_, rfl, _, _, rfl, rfl, _, rfl, ?_⟩
        by_cases hl : 4 ≤ lv
        · refine iteDT (decide_eq_true (by omega)) (kF ?_ H1 D1.base)
          rw [et]
          unfold PR.put
          rw [eW, if_neg (fun q => q hw), if_pos hl]
        · refine iteDF (decide_eq_false (by omega)) ?_
          have ep : R.takeHead (.tuple (.str wd :: rest)) lv = some { R1 with frames := ⟨wd, rest, none, []⟩ :: R1.frames } := by
            rw [et]
            unfold PR.put
            rw [eW, if_neg (fun q => q hw), if_neg hl]; rfl
          refine ⟨_, rfl, r, _, dr, _, _, rfl, D1.ins, T.cl_Reader, T.at_Reader_frames, rfl, .inl ⟨rfl, _, SqL.at D1.frames⟩, _, rfl, fun x dx hx hdx nx => ?_⟩
          have sA : Same H1 (upd (upd H1 dx (.own x)) x (.ins T.C_Frame dx [])) := fun q o e => by rw [upd_ne (ne_of_none e hx), upd_ne (ne_of_none e hdx)]; exact e
          refine ⟨x, dx, _, rfl, upd_same, fun H2 b c hb hc nbc i1 i2 i3 sx => ⟨rfl, ?_⟩⟩
          have s2 : Same H1 H2 := fun q o e => sx q o (ne_of_none e hx) (sA _ _ e)
          have hb1 := none_base sA hb
          have hc1 := none_base sA hc
          have D2 := D1.same s2
          have hv2 := hv1.mv (MvT.same s2)
          obtain ⟨n1, n2, n3⟩ := nd_af D1.nd
          have nb := D1.ne_new hb1
          have nc := D1.ne_new hc1
          have fle := fr_le R1
          refine ⟨af, _, _, rfl, rfl, D2.frames, small1000 (by rw [List.length_reverse, List.length_map, D1.each.len]; omega), ?_⟩
          have ch := Ch.putL (l' := (fs.map fun f => V.ref f.fa).reverse ++ [V.ref x]) D2.frames
          have ba : b ≠ af := (nb af (by simp)).symm
          have ca : c ≠ af := (nc af (by simp)).symm
          refine kT _ ep _ ⟨dr, ak, ab, af, ⟨x, dx, .ref ha, b, none, c⟩ :: fs, ?_⟩
          have ho2 : ((⟨x, dx, .ref ha, b, none, c⟩ : FA) :: fs).flatMap FA.own = b :: c :: fs.flatMap FA.own := rfl
          refine ⟨ch.ins _ _ _ _ D2.ins, D2.kept.ch ch (by simpa using n1), ?_, ?_, .cons ⟨ch.ins _ _ _ _ i1, hv2.mv ch.tup, ch.oth _ _ (by simpa using ba) i2, .inl ⟨rfl, rfl⟩, ⟨[], ch.oth _ _ (by simpa using ca) i3, .nil⟩, hw, hr1⟩ (D2.each.ch ch fun g hg q hq => by simpa using n2 g hg q hq), ?_,
            same_own D2.base (D1.new _ (by simp)), fun a ha => ?_⟩
          · rw [upd_ne (fun e => by have := D2.bound; rw [e, D2.frames] at this; cases this)]
            exact D2.bound
          · rw [List.map_cons, List.reverse_cons]
            exact upd_same
          · rw [ho2]
            have pm : ([b, c] ++ ([ak, af] ++ fs.flatMap FA.own)).Perm ([ak, af] ++ ([b, c] ++ fs.flatMap FA.own)) := List.perm_append_comm_assoc _ _ _
            refine pm.nodup_iff.mp ?_
            show (b :: c :: ak :: af :: fs.flatMap FA.own).Nodup
            refine List.nodup_cons.mpr ⟨fun h => ?_, List.nodup_cons.mpr ⟨fun h => ?_, D1.nd⟩⟩
            · rcases List.mem_cons.mp h with e | e
              · exact nbc e
              · exact nb b (List.mem_cons.mpr (.inr e)) rfl
            · exact nc c (List.mem_cons.mpr (.inr h)) rfl
          · rw [ho2] at ha
            simp only [List.mem_cons] at ha
            rcases ha with h | h | h | h | h | h
            · exact D1.new a (by simp [h])
            · exact D1.new a (by simp [h])
            · exact D1.new a (by simp [h])
            · rw [h]; exact none_base D1.base hb1
            · rw [h]; exact none_base D1.base hc1
            · exact D1.new a (by simp only [List.mem_cons]; exact .inr (.inr (.inr h)))
      · refine iteDT (by rw [decide_eq_false hw]; rfl) ?_
        refine ⟨_, rfl, r, dr, _, rfl, D1.ins, rfl, _, rfl, H0, r, R1, _, _, rfl, ⟨dr, ak, ab, af, fs, D1⟩, hv1, hs1, fun H2 D2 => kT _ ?_ H2 D2⟩
        rw [et]
        unfold PR.put
        rw [eW, if_pos hw]
end
end Sn

/-! ## The reader: take a line -/
namespace Sn
open PySem PySem.Spec PyProof.Rows L2 TL
theorem hd_pmap {α : Type} {f : α → PyData} {p : Ps α} {L : List Nat} {i : Nat} {r : PyData × Nat} (h : pMap f p L i = some r) : ∃ x, r.1 = f x := by
  unfold pMap at h
  cases e : p L i with
  | none => rw [e] at h; cases h
  | some q => rw [e] at h; cases h; exact ⟨_, rfl⟩
theorem bindS {α β : Type} {o : Option α} {f : α → Option β} {x : β} (h : o.bind f = some x) : ∃ y, o = some y ∧ f y = some x := by
  cases o with
  | none => cases h
  | some y => exact ⟨y, rfl, h⟩
theorem hd_no {w : Str} {rest : List PyData} (n : w ∉ binders) (h : rest.length ≤ 10) : HeadOk (.tuple (.str w :: rest)) := ⟨w, rest, rfl, h, fun q => absurd q n⟩
theorem hd_yes {w n : Str} {rest : List PyData} (h : rest.length ≤ 9) : HeadOk (.tuple (.str w :: .str n :: rest)) := ⟨w, _, rfl, by rw [List.length_cons]; omega, fun _ => ⟨_, _, rfl⟩⟩
theorem hd_call {c : PyData} {L : List Nat} {i : Nat} {r : PyData × Nat} (h : pCall c L i = some r) : HeadOk r.1 := by
  unfold pCall at h
  obtain ⟨t, _, h⟩ := bindS h
  obtain ⟨q, _, h⟩ := bindS h
  split at h
  · cases h
    exact hd_no (by decide +kernel) (by show 3 ≤ 10; decide)
  · cases h
theorem hd_let {L : List Nat} {i : Nat} {r : PyData × Nat} (h : pLet L i = some r) : HeadOk r.1 := by
  unfold pLet at h
  obtain ⟨t, _, h⟩ := bindS h
  split at h
  · cases h
    exact hd_no (by decide +kernel) (by show 1 ≤ 10; decide)
  · split at h
    · exact hd_call h
    · obtain ⟨x, e⟩ := hd_pmap h
      rw [e]
      exact hd_no (by decide +kernel) (by show 2 ≤ 10; decide)
theorem hd_choice {L : List Nat} {i : Nat} {r : PyData × Nat} (h : pChoice L i = some r) : HeadOk r.1 := by
  unfold pChoice at h
  split at h
  · obtain ⟨x, e⟩ := hd_pmap h
    rw [e]
    exact hd_no (by decide +kernel) (by show 1 ≤ 10; decide)
  · obtain ⟨t, _, h⟩ := bindS h
    obtain ⟨x, e⟩ := hd_pmap h
    rw [e]
    exact hd_no (by decide +kernel) (by show 2 ≤ 10; decide)
theorem hd_stmt {L : List Nat} {i : Nat} {r : PyData × Nat} (h : pStmt L i = some r) : HeadOk r.1 := by
  unfold pStmt at h
  split at h
  · exact hd_let h
  split at h
  · exact hd_call h
  split at h
  · exact hd_choice h
  split at h
  · obtain ⟨t, _, h⟩ := bindS h
    obtain ⟨x, e⟩ := hd_pmap h
    rw [e]
    exact hd_no (by decide +kernel) (by show 2 ≤ 10; decide)
  split at h
  · obtain ⟨x, e⟩ := hd_pmap h
    rw [e]
    exact hd_no (by decide +kernel) (by show 1 ≤ 10; decide)
  split at h
  · cases h
    exact hd_no (by decide +kernel) (by show 0 ≤ 10; decide)
  split at h
  · cases h
    exact hd_no (by decide +kernel) (by show 0 ≤ 10; decide)
  · cases h
theorem hd_used {L : List Nat} {i : Nat} {r : PyData × Nat} (h : pUsed L i = some r) : HeadOk r.1 := by
  unfold pUsed at h
  obtain ⟨t, _, h⟩ := bindS h
  split at h
  · cases h
    exact hd_no (by decide +kernel) (by show 1 ≤ 10; decide)
  · obtain ⟨q, _, h⟩ := bindS h
    split at h
    · obtain ⟨u, _, h⟩ := bindS h
      split at h
      · cases h
      · cases h
        exact hd_yes (by show 2 ≤ 9; decide)
    · cases h
      exact hd_yes (by show 2 ≤ 9; decide)
theorem hd_item {L : List Nat} {i : Nat} {r : PyData × Nat} (h : pItem L i = some r) : HeadOk r.1 := by
  unfold pItem at h
  split at h
  · exact hd_used h
  split at h
  · unfold pOffered at h
    obtain ⟨t, _, h⟩ := bindS h
    split at h
    · cases h
      exact hd_no (by decide +kernel) (by show 1 ≤ 10; decide)
    · cases h
  split at h
  · unfold pKeyed at h
    obtain ⟨t, _, h⟩ := bindS h
    obtain ⟨q, _, h⟩ := bindS h
    split at h
    · cases h
      exact hd_yes (by show 1 ≤ 9; decide)
    · cases h
  split at h
  · unfold pDefined at h
    obtain ⟨t, _, h⟩ := bindS h
    obtain ⟨q, _, h⟩ := bindS h
    split at h
    · cases h
      exact hd_yes (by show 1 ≤ 9; decide)
    · cases h
  split at h
  · obtain ⟨x, e⟩ := hd_pmap h
    rw [e]
    exact hd_no (by decide +kernel) (by show 1 ≤ 10; decide)
  split at h
  · obtain ⟨t, _, h⟩ := bindS h
    obtain ⟨x, e⟩ := hd_pmap h
    rw [e]
    exact hd_yes (by show 1 ≤ 9; decide)
  · cases h
/-- the heap but for these places -/
def hidO (H : Hp) (L : List Addr) : Hp := fun b => if b ∈ L then none else H b
theorem hidO_at {H : Hp} {L : List Addr} {b : Addr} (h : b ∉ L) : hidO H L b = H b := if_neg h
theorem hidO_same (H : Hp) (L : List Addr) : Same (hidO H L) H := fun b o e => by
  unfold hidO at e
  split at e
  · cases e
  · exact e
theorem RdAt.rebase {C CF : Addr} {H0 H : Hp} {r dr ak ab af : Addr} {fs : List FA} {R : PR} (D : RdAt C CF H0 H r dr ak ab af fs R) : RdAt C CF (hidO H (ab :: ak :: af :: fs.flatMap FA.own)) H r dr ak ab af fs R :=
  ⟨D.ins, D.kept, D.bound, D.frames, D.each, D.nd, hidO_same _ _, fun a ha => if_pos ha⟩
theorem RdAt.below {C CF : Addr} {H0 H : Hp} {r dr ak ab af : Addr} {fs : List FA} {R : PR} (D : RdAt C CF H0 H r dr ak ab af fs R) : Same H0 (hidO H (ab :: ak :: af :: fs.flatMap FA.own)) := fun b o e => by
  rw [hidO_at (fun h => by rw [D.new b h] at e; cases e)]
  exact D.base _ _ e
theorem Rd.down {C CF : Addr} {H0 H1 H : Hp} {r : Addr} {R : PR} (s : Same H0 H1) (D : Rd C CF H1 H r R) : Rd C CF H0 H r R := by
  obtain ⟨dr, ak, ab, af, fs, D⟩ := D
  exact ⟨dr, ak, ab, af, fs, D.ins, D.kept, D.bound, D.frames, D.each, D.nd, s.trans D.base, fun a ha => none_base s (D.new a ha)⟩
theorem FrAt.own_no {C : Addr} {H : Hp} {f : FA} {p : PF} (F : FrAt C H f p) {xs : List V} : ∀ a ∈ f.own, H a ≠ some (.tup xs) := by
  intro a ha e
  simp only [FA.own, FA.bs, List.mem_cons, List.mem_append, List.not_mem_nil, or_false, Option.mem_toList] at ha
  rcases ha with rfl | h | rfl
  · rw [F.blocks] at e; cases e
  · rcases F.pre with ⟨e1, _⟩ | ⟨b, rows, e1, _, ys, hy, _⟩
    · rw [e1] at h; cases h
    · rw [e1] at h
      cases h
      rw [hy] at e; cases e
  · obtain ⟨ys, hy, _⟩ := F.cur
    rw [hy] at e; cases e
theorem FrAll.own_no {C : Addr} {H : Hp} {fs : List FA} {ps : List PF} (h : FrAll C H fs ps) {xs : List V} : ∀ a ∈ fs.flatMap FA.own, H a ≠ some (.tup xs) := by
  induction h with
  | nil => intro a ha; cases ha
  | cons h1 _ ih =>
    intro a ha
    rw [List.flatMap_cons, List.mem_append] at ha
    rcases ha with h | h
    · exact h1.own_no a h
    · exact ih a h
theorem RdAt.own_no {C CF : Addr} {H0 H : Hp} {r dr ak ab af : Addr} {fs : List FA} {R : PR} (D : RdAt C CF H0 H r dr ak ab af fs R) {xs : List V} : ∀ a ∈ ab :: ak :: af :: fs.flatMap FA.own, H a ≠ some (.tup xs) := by
  intro a ha e
  simp only [List.mem_cons] at ha
  rcases ha with rfl | rfl | rfl | h
  · rw [D.bound] at e; cases e
  · obtain ⟨ys, hy, _⟩ := D.kept
    rw [hy] at e; cases e
  · rw [D.frames] at e; cases e
  · exact D.each.own_no a h e
/-- tuples stay while the reader works -/
theorem RdAt.tups {C CF : Addr} {H0 H H' : Hp} {r dr ak ab af : Addr} {fs : List FA} {R : PR} (D : RdAt C CF H0 H r dr ak ab af fs R) (s : Same (hidO H (ab :: ak :: af :: fs.flatMap FA.own)) H') : MvT H H' := fun b xs e => by
  refine s _ _ ?_
  rw [hidO_at (fun h => D.own_no b h e)]
  exact e
theorem strip_le (z : Str) : (strip z).length ≤ z.length := by
  rw [len_tl, len_tl]
  show ((tl z).dropWhile _).length ≤ _
  exact (List.dropWhile_sublist _).length_le
theorem line_eq {R : PR} {s : Str} {lv : Nat} (h2 : ¬ (s = "else:" ∨ s = "except:")) : R.line s lv = ((if lv = 0 then pItem else pStmt) (tl s) 0).bind fun r => if (tl s).drop r.2 ≠ [] then none else (R.shut lv).bind fun R' => R'.takeHead r.1 lv := by
  unfold PR.line
  rw [if_neg h2]
  cases (if lv = 0 then pItem else pStmt) (tl s) 0 <;> rfl
section
variable {P : Program} {w : World} {K : PySem.W.Frag} {mg : Str → Option Value} {base : Heap}
def spScanner (C : Addr) : Sp := fun vs H Q _ => ∃ (a dx : Addr) (z : Str), vs = [.ref a, .str z] ∧ H a = some (.ins C dx []) ∧ ∀ H', SX a H H' → H' a = some (.ins C dx [("line", .str z), ("spot", .int 0)]) → Q .non H'
theorem ok_scanner (T : Txt K mg) : FnOk P w K mg base CX0 1 T.f_Scanner_init T.fd_Scanner_init ["self", "line"] (spScanner T.C_Scanner) := by
  refine T.F_Scanner_init.ok sc_Scanner_init (fun vs H Q E h => ?_) (fun cdv A outer s H vs Q E hr h => ?_)
  · obtain ⟨a, dx, z, rfl, _⟩ := h
    rfl
  · obtain ⟨a, dx, z, rfl, hA, k⟩ := h
    refine ⟨_, (pss_cons (ps_fld (pv 0) (pv 1) rfl)
      (pss_one (ps_fld (pv 0) pe_int rfl))), ?_⟩
    refine ⟨_, rfl, _, rfl, a, T.C_Scanner, dx, [], rfl, hA, T.cl_Scanner, T.at_Scanner_line, by decide, ?_⟩
    refine ⟨_, rfl, a, T.C_Scanner, dx, [("line", .str z)], rfl, upd_same, T.cl_Scanner, T.at_Scanner_spot, (by show 1 < 1000; decide), ?_⟩
    refine k _ (fun b o n e => ?_) upd_same
    rw [upd_ne n, upd_ne n]
    exact e
def spRTake (C CF : Addr) : Sp := fun vs H Q _ => ∃ (H0 : Hp) (r : Addr) (R : PR) (z : Str), vs = [.ref r, .str z] ∧ Rd C CF H0 H r R ∧ z.length ≤ 1000 ∧ R.size < 1000 ∧ R.bound.length < 1000 ∧
  (∀ R', R.take z = some R' → ∀ H', Rd C CF H0 H' r R' → Q (.bl true) H') ∧ (R.take z = none → ∀ H', Same H0 H' → Q (.bl false) H')
theorem ok_rtake (T : Txt K mg) (hD : DcOk w T) : FnOk P w K mg base CX0 11 T.f_Reader_take T.fd_Reader_take ["self", "line"] (spRTake T.C_Reader T.C_Frame) := by
  have GS : FnOk P w K mg base CX0 2 T.f_Reader_shut T.fd_Reader_shut ["self", "level"] (spShut T.C_Reader T.C_Frame) := ok_shut T
  have GG : FnOk P w K mg base CX0 3 T.f_Reader_go_on T.fd_Reader_go_on ["self", "line", "level"] (spGoOn T.C_Reader T.C_Frame) := ok_goon T hD
  have GH : FnOk P w K mg base CX0 3 T.f_Reader_take_head T.fd_Reader_take_head ["self", "head", "level"] (spTHead T.C_Reader T.C_Frame) := ok_thead T
  have GI : FnOk P w K mg base CX0 8 T.f_Scanner_item T.fd_Scanner_item ["self"] (spD1 T.C_Scanner pItem) := ok_item T
  have GM : FnOk P w K mg base CX0 10 T.f_Scanner_statement T.fd_Scanner_statement ["self"] (spD1 T.C_Scanner pStmt) := ok_stmt T
  have GR : FnOk P w K mg base CX0 1 T.f_Scanner_rest T.fd_Scanner_rest ["self"] (spRest T.C_Scanner) := ok_rest T
  have GC : FnOk P w K mg base CX0 1 T.f_Scanner_init T.fd_Scanner_init ["self", "line"] (spScanner T.C_Scanner) := ok_scanner T
  obtain ⟨t1, g_STEP⟩ := T.c_STEP
  refine T.F_Reader_take.ok sc_Reader_take (fun vs H Q E h => ?_) (fun cdv A outer s H vs Q E hr h => ?_)
  · obtain ⟨H0, r, R, z, rfl, _⟩ := h
    rfl
  · obtain ⟨H0, r, R, z, rfl, D0, hz, hs, hb, kT, kF⟩ := h
    refine ⟨_, (pss_cons (ps_set (i := 2) sc_Reader_take.nd rfl (Or.inl rfl) (pe_m1 PySem.F.slot_str_lstrip PySem.F.type_str_lstrip mt_lstripChars (pv 1) pe_str))
      (pss_cons (ps_asg (pe_callB call_divmod (by rfl) T.z_divmod (by decide +kernel) (pa_cons (pe_op op_sub (pe_callB (call_lenN (K := K)) (by rfl) T.z_len (by decide +kernel) (pa_cons (pv 1) pa_nil)) (pe_callB (call_lenN (K := K)) (by rfl) T.z_len (by decide +kernel) (pa_cons (pv 2) pa_nil))) (pa_cons (pe_glob (v := .int 4) rfl g_STEP ⟨_, rfl⟩) pa_nil))) (pg_tup rfl (pgs_cons (pg_name (i := 3) sc_Reader_take.nd rfl (Or.inl rfl)) (pgs_cons (pg_name (i := 4) sc_Reader_take.nd rfl (Or.inl rfl)) pgs_nil))))
      (pss_cons (ps_if (PW.pt (pw_or (pt_cmpR op_ne (pv 4) pe_int (nomark _)) (pw_or1 (pt_cmpR op_gt (pv 3) (pe_callB (call_lenN (K := K)) (by rfl) T.z_len (by decide +kernel) (pa_cons (pe_fldK (K := K) (pv 0)) pa_nil)) (nomark _)))))
        (pss_one (ps_ret pe_bl))
        pss_nil)
      (pss_cons (ps_if (pt_cmpR (op_in_seqK (K := K)) (pv 2) (pe_glob (v := .ref T.a_SECOND_LINES) rfl T.c_SECOND_LINES rfl) (by rfl))
        (pss_one (ps_ret (pe_meth (pv 0) T.cl_Reader T.m_Reader_go_on (ok_goon T hD) (hr.mono (by decide)) T.b_Reader_go_on .nil pass0 (pa_cons (pv 2) (pa_cons (pv 3) pa_nil)))))
        pss_nil)
      (pss_cons (ps_set (i := 5) sc_Reader_take.nd rfl (Or.inl rfl) (pe_make T.mk_Scanner (ok_scanner T) (hr.mono (by decide)) rfl T.gC_Scanner T.b_Scanner_init .nil pass0 (pa_cons (pv 2) pa_nil)))
      (C8.pss_cut (ps_set (i := 6) sc_Reader_take.nd rfl (Or.inl rfl) (pe_ifExp (pt_cmpR op_eq (pv 3) pe_int (nomark _)) (pe_meth0 (pv 5) T.cl_Scanner T.m_Scanner_item (ok_item T) (hr.mono (by decide)) T.b_Scanner_item .nil pass0) (pe_meth0 (pv 5) T.cl_Scanner T.m_Scanner_statement (ok_stmt T) (hr.mono (by decide)) T.b_Scanner_statement .nil pass0)))
      (pss_cons (ps_if (PW.pt (pw_or (pt_cmpR op_isN (pv 6) pe_non (nomark _)) (pw_or (pt_cmpR op_ne (pe_meth0 (pv 5) T.cl_Scanner T.m_Scanner_rest (ok_rest T) (hr.mono (by decide)) T.b_Scanner_rest .nil pass0) pe_str (nomark _)) (pw_or1 (pt_not (pt_val (pe_meth (pv 0) T.cl_Reader T.m_Reader_shut (ok_shut T) (hr.mono (by decide)) T.b_Reader_shut .nil pass0 (pa_cons (pv 3) pa_nil))))))))
        (pss_one (ps_ret pe_bl))
        pss_nil)
      (pss_one (ps_ret (pe_meth (pv 0) T.cl_Reader T.m_Reader_take_head (ok_thead T) (hr.mono (by decide)) T.b_Reader_take_head .nil pass0 (pa_cons (pv 6) (pa_cons (pv 3) pa_nil)))))))))))), ?_⟩
    have sl := strip_le z
    generalize hn : z.length - (strip z).length = n
    have eT : R.take z = if n % 4 ≠ 0 ∨ R.frames.length < n / 4 then none else R.line (strip z) (n / 4) := by unfold PR.take; rw [hn]
    obtain ⟨dr, ak, ab, af, fs, D⟩ := D0
    refine ⟨_, rfl, ⟨_, rfl⟩, z, " ", rfl, rfl, Nat.le_of_lt (small1000 hz), ?_⟩
    rw [strip_eq]
    have ln1 : LenV K (.str z) H z.length := ⟨Nat.le_of_lt (small1000 hz), rfl⟩
    have ln2 : LenV K (.str (strip z)) H (strip z).length := ⟨Nat.le_of_lt (small1000 (by omega)), rfl⟩
    refine ⟨_, rfl, _, _, rfl, ln1, _, rfl, _, _, rfl, ln2, _, _, rfl, rfl, (n : Nat), 4, ?_, ⟨by decide, by decide⟩, fun p hp => ?_⟩
    · show [V.int _, V.int _] = _
      rw [show ((z.length : Nat) : Int) - ((strip z).length : Nat) = (n : Nat) by omega]
    rw [show ((n : Nat) : Int) / 4 = ((n / 4 : Nat) : Int) by omega, show ((n : Nat) : Int) % 4 = ((n % 4 : Nat) : Int) by omega]
    have sp := same_new (o := .tup [.int (n / 4 : Nat), .int (n % 4 : Nat)]) hp
    refine ⟨p, _, rfl, .inl (.inl upd_same), rfl, _, _, rfl, _, _, rfl, rfl, ?_⟩
    have D1 := D.same sp
    refine ⟨_, rfl, rfl, _, rfl, ?_⟩
    by_cases h0 : n % 4 = 0
    · refine iteDF (by rw [h0]; rfl) ?_
      refine ⟨_, rfl, _, rfl, r, _, dr, _, _, rfl, D1.ins, T.cl_Reader, T.at_Reader_frames, rfl, _, _, rfl, Rd.lenF D1, _, _, rfl, rfl, _, rfl, ?_⟩
      by_cases hl : R.frames.length < n / 4
      · refine iteDT (decide_eq_true (by omega)) ?_
        exact kF (by rw [eT, if_pos (.inr hl)]) _ D1.base
      · refine iteDF (decide_eq_false (by omega)) ?_
        have eT2 : R.take z = R.line (strip z) (n / 4) := by rw [eT, if_neg (fun q => q.elim (fun q => q h0) hl)]
        refine ⟨_, rfl, ?_⟩
        dsimp only [tC]
        refine in_strs (l := ["else:", "except:"]) (.inr (T.q_SECOND_LINES _)) ⟨_, rfl, ?_⟩
        by_cases h2 : strip z = "else:" ∨ strip z = "except:"
        · refine iteDT (decide_eq_true (by simpa using h2)) ?_
          have eL : R.take z = R.goOn (strip z) (n / 4) := by rw [eT2]; unfold PR.line; rw [if_pos h2]
          refine ⟨_, rfl, r, dr, _, rfl, D1.ins, rfl, _, rfl, _, rfl, H0, r, R, strip z, n / 4, rfl, ⟨dr, ak, ab, af, fs, D1⟩, Nat.le_of_lt hs, fun R' e H2 D2 => kT R' (by rw [eL, e]) H2 D2, fun e H2 s2 => kF (by rw [eL, e]) H2 s2⟩
        · refine iteDF (decide_eq_false (by simpa using h2)) ?_
          refine ⟨_, rfl, fun x dx hx hdx nx => ?_⟩
          generalize hG : upd H p (.tup [.int (n / 4 : Nat), .int (n % 4 : Nat)]) = H1 at hx hdx D1 sp
          have sA : Same H1 (upd (upd H1 dx (.own x)) x (.ins T.C_Scanner dx [])) := fun q o e => by rw [upd_ne (ne_of_none e hx), upd_ne (ne_of_none e hdx)]; exact e
          refine ⟨x, dx, _, rfl, upd_same, fun H2 sx i1 => ⟨rfl, ?_⟩⟩
          have s2 : Same H1 H2 := fun q o e => sx q o (ne_of_none e hx) (sA _ _ e)
          have S2 : Sc T.C_Scanner H2 x dx (strip z) 0 := ⟨i1, Nat.zero_le _, by omega⟩
          have up : ∀ H3, SX x H2 H3 → Same H H3 := fun H3 s3 => sp.trans fun q o e => s3 q o (ne_of_none e hx) (s2 _ _ e)
          refine ⟨fun σ H1 => ∃ (x dx : Addr) (v : V) (j : Nat), n % 4 = 0 ∧ n / 4 ≤ R.frames.length ∧ ¬ (strip z = "else:" ∨ strip z = "except:") ∧ σ = [some (.ref r), some (.str z), some (.str (strip z)), some (.int (n / 4 : Nat)), some (.int (n % 4 : Nat)), some (.ref x), some v] ∧ Same H H1 ∧ Sc T.C_Scanner H1 x dx (strip z) j ∧
            ((∃ d, (if n / 4 = 0 then pItem else pStmt) (tl (strip z)) 0 = some (d, j) ∧ St1 H1 v d ∧ v ≠ .non) ∨ ((if n / 4 = 0 then pItem else pStmt) (tl (strip z)) 0 = none ∧ v = .non)), ?_, ?_⟩
          · refine ⟨_, rfl, rfl, _, rfl, ?_⟩
            by_cases h3 : n / 4 = 0
            · refine iteDT (decide_eq_true (by rw [h3]; rfl)) ?_
              refine ⟨_, rfl, x, dx, _, rfl, i1, rfl, x, rfl, dx, _, 0, S2, fun y j e v H3 s3 S3 hv nv => ?_, fun e j H3 s3 S3 => ?_⟩
              · exact ⟨x, dx, v, j, h0, by omega, h2, rfl, up H3 s3, S3, .inl ⟨y, by rw [if_pos h3]; exact e, hv, nv⟩⟩
              · exact ⟨x, dx, .non, j, h0, by omega, h2, rfl, up H3 s3, S3, .inr ⟨by rw [if_pos h3]; exact e, rfl⟩⟩
            · refine iteDF (decide_eq_false (fun q => h3 (by injection q with q; omega))) ?_
              refine ⟨_, rfl, x, dx, _, rfl, i1, rfl, x, rfl, dx, _, 0, S2, fun y j e v H3 s3 S3 hv nv => ?_, fun e j H3 s3 S3 => ?_⟩
              · exact ⟨x, dx, v, j, h0, by omega, h2, rfl, up H3 s3, S3, .inl ⟨y, by rw [if_neg h3]; exact e, hv, nv⟩⟩
              · exact ⟨x, dx, .non, j, h0, by omega, h2, rfl, up H3 s3, S3, .inr ⟨by rw [if_neg h3]; exact e, rfl⟩⟩
          · rintro σ H1 ⟨x, dx, v, j, h0, hl, h2, rfl, s1, S1, hv⟩
            have D1 := D.same s1
            have eT2 : R.take z = R.line (strip z) (n / 4) := by rw [eT, if_neg (fun q => q.elim (fun q => q h0) fun q => by omega)]
            generalize hp : (if n / 4 = 0 then pItem else pStmt) (tl (strip z)) 0 = o at hv
            have eL : R.take z = o.bind fun r => if (tl (strip z)).drop r.2 ≠ [] then none else (R.shut (n / 4)).bind fun R' => R'.takeHead r.1 (n / 4) := by
              rw [eT2, line_eq h2, hp]
            rcases hv with ⟨d, rfl, hv, nv⟩ | ⟨rfl, rfl⟩
            · have hO : HeadOk d := by
                by_cases h3 : n / 4 = 0
                · rw [if_pos h3] at hp; exact hd_item hp
                · rw [if_neg h3] at hp; exact hd_stmt hp
              have eL : R.take z = if (tl (strip z)).drop j ≠ [] then none else (R.shut (n / 4)).bind fun R' => R'.takeHead d (n / 4) := eL
              refine ⟨_, rfl, rfl, _, rfl, iteDF (by simp [nv]) ?_⟩
              refine ⟨_, rfl, x, dx, _, rfl, S1.at_, rfl, x, dx, _, j, rfl, S1, rfl, _, rfl, ?_⟩
              by_cases hd : (tl (strip z)).drop j = []
              · refine iteDF ?_ ?_
                · rw [hd]; rfl
                have eL : R.take z = (R.shut (n / 4)).bind fun R' => R'.takeHead d (n / 4) := by rw [eL, if_neg (fun q => q hd)]
                refine ⟨_, rfl, r, dr, _, rfl, D1.ins, rfl, _, rfl, _, r, R, n / 4, rfl, ⟨dr, ak, ab, af, fs, D1.rebase⟩, Nat.le_of_lt hs, fun R1 e1 H2 D2 => ⟨_, rfl, iteF ?_⟩, fun e1 H2 s2 => ⟨_, rfl, iteT ?_⟩⟩
                · obtain ⟨l1, l2, l3⟩ := shut_len e1
                  have hv2 := hv.mv (D1.tups D2.base)
                  have D3 := D2.down D1.below
                  obtain ⟨dr2, ak2, ab2, af2, fs2, D4⟩ := D3
                  refine ⟨_, rfl, r, dr2, _, rfl, D4.ins, rfl, _, rfl, _, rfl, H0, r, R1, v, d, n / 4, rfl, ⟨dr2, ak2, ab2, af2, fs2, D4⟩, hv2, hO, by omega, by rw [l3]; exact hb, fun R' e H3 D5 => kT R' (by rw [eL, e1]; exact e) H3 D5, fun e H3 s3 => kF (by rw [eL, e1]; exact e) H3 s3⟩
                · exact kF (by rw [eL, e1]; rfl) H2 (D1.below.trans s2)
              · refine iteDT ?_ (iteT ?_)
                · rw [Bool.not_eq_true', decide_eq_false_iff_not]
                  intro q
                  injection q with q
                  exact hd (congrArg tl q)
                · exact kF (by rw [eL, if_pos hd]) _ D1.base
            · refine ⟨_, rfl, rfl, _, rfl, iteT (iteT ?_)⟩
              exact kF eL H1 D1.base
    · refine iteDT ?_ (iteT ?_)
      · rw [Bool.not_eq_true', decide_eq_false_iff_not]
        intro q
        injection q with q
        omega
      · exact kF (by rw [eT, if_pos (.inl h0)]) _ D1.base
end
end Sn

/-! ## read_module -/
namespace Sn
open PySem PySem.Spec PyProof.Rows L2 TL
theorem bind_len {R R' : PR} {d : PyData} (h : R.bind d = some R') : R'.size = R.size ∧ R'.bound.length ≤ R.bound.length + 1 ∧ R'.frames = R.frames := by
  unfold PR.bind at h
  split at h
  · split at h
    · cases h
    · cases h
      exact ⟨rfl, by simp, rfl⟩
  · cases h
    exact ⟨rfl, by omega, rfl⟩
theorem put_len {R R' : PR} {d : PyData} {lv : Nat} (h : R.put d lv = some R') : R'.size ≤ R.size + 1 ∧ R'.bound = R.bound := by
  unfold PR.put at h
  split at h
  · cases h
    obtain ⟨k1, k2, k3⟩ := keep_size R d
    exact ⟨by omega, k2⟩
  · split at h
    · cases h
    · cases h
      refine ⟨?_, rfl⟩
      simp only [PR.size, List.map_cons, List.sum_cons, PF.size]
      simp
      omega
theorem second_len {R R' : PR} {z : Str} (h : R.second z = some R') : R'.size ≤ R.size ∧ R'.bound = R.bound := by
  unfold PR.second at h
  split at h
  · cases h
  · rename_i f fs e
    split at h
    · rename_i hg
      cases h
      refine ⟨?_, rfl⟩
      have hp : f.pre = none := by
        unfold PF.goes at hg
        simp only [Bool.and_eq_true, Bool.not_eq_true', Option.isSome_eq_false_iff, Option.isNone_iff_eq_none] at hg
        exact hg.1.1
      simp only [PR.size, e, List.map_cons, List.sum_cons, PF.size, hp]
      simp
    · cases h
theorem take_len {R R' : PR} {z : Str} (h : R.take z = some R') : R'.size ≤ R.size + 1 ∧ R'.bound.length ≤ R.bound.length + 1 := by
  unfold PR.take at h
  split at h
  · cases h
  unfold PR.line at h
  split at h
  · unfold PR.goOn at h
    split at h
    · cases h
    · obtain ⟨R1, e1, e2⟩ := bindS h
      obtain ⟨_, a, b⟩ := shut_len e1
      obtain ⟨c, d⟩ := second_len e2
      exact ⟨by omega, by rw [d, b]; omega⟩
  · split at h
    · cases h
    · split at h
      · cases h
      · obtain ⟨R1, e1, e2⟩ := bindS h
        obtain ⟨_, a, b⟩ := shut_len e1
        unfold PR.takeHead at e2
        obtain ⟨R2, e3, e4⟩ := bindS e2
        obtain ⟨c, d, _⟩ := bind_len e3
        obtain ⟨f, g⟩ := put_len e4
        exact ⟨by omega, by rw [g]; rw [b] at d; exact d⟩
theorem NoStr.same {K : PySem.W.Frag} {H H' : Hp} {v : V} (h : NoStr K H v) (s : Same H H') : NoStr K H' v := by
  obtain ⟨t, ty, hk⟩ := h
  exact ⟨t, tyX_same s ty, hk⟩
theorem kit_selfT {K : PySem.W.Frag} (C : Addr) : PySem.W.kitOne K (.ref C) (.ref C) = some true := by
  unfold PySem.W.kitOne
  exact if_pos (by simp)
theorem nl_len : (("\n" : Str).length == 0) = false := by decide +kernel
section
variable {P : Program} {w : World} {K : PySem.W.Frag} {mg : Str → Option Value} {base : Heap}
/-- a text that may be read -/
structure TextOk (z : Str) : Prop where
  len : z.length ≤ 900000
  few : (Txt.split z "\n").length ≤ 900
  each : ∀ l ∈ Txt.split z "\n", l.length ≤ 1000
def spRead (K : PySem.W.Frag) (CB : Addr) : Sp := fun vs H Q E => ∃ v : V, vs = [v] ∧
  ((∃ z : Str, v = .str z ∧ TextOk z ∧
    (∀ t, readAll (Txt.split z "\n") = .ok t → ∀ v H', Same H H' → St1 H' v (.tuple t) → Q v H') ∧
    (∀ k, readAll (Txt.split z "\n") = .error k → ∀ d H', Same H H' → H' d = none → E (.ref CB) (some d) (upd H' d (.xd [("line", .int (k : Nat))])))) ∨
   (NoStr K H v ∧ ∀ d, H d = none → E (.ref CB) (some d) (upd H d (.xd [("line", .int (0 : Nat))]))))
theorem ok_read (T : Txt K mg) (hP : PrOk P) (hD : DcOk w T) : FnOk P w K mg base (L2.CX P w) 12 T.f_read_module T.fd_read_module ["text"] (spRead K T.C_BadText) := by
  have GS : FnOk P w K mg base CX0 2 T.f_Reader_shut T.fd_Reader_shut ["self", "level"] (spShut T.C_Reader T.C_Frame) := ok_shut T
  have GT : FnOk P w K mg base CX0 11 T.f_Reader_take T.fd_Reader_take ["self", "line"] (spRTake T.C_Reader T.C_Frame) := ok_rtake T hD
  have GR : FnOk P w K mg base CX0 1 T.f_Reader_init T.fd_Reader_init ["self"] (spReader T.C_Reader T.C_Frame) := ok_reader T
  refine T.F_read_module.okX sc_read_module (fun vs H Q E h => ?_) (fun cdv A outer s H vs Q E hr h => ?_)
  · obtain ⟨v, rfl, _⟩ := h
    rfl
  · obtain ⟨v, rfl, h⟩ := h
    refine ⟨_, (pss_cons (ps_if (pt_not (pt_val (pe_callB (call_isiN (K := K)) (by rfl) T.z_isinstance (by decide +kernel) (pa_cons (pv 0) (pa_cons (pe_bltn (v := .ty "str") (by rfl) T.z_str (by decide +kernel) rfl) pa_nil)))))
        (pss_one (ps_raise rfl (takes_of rfl rfl rfl rfl) (pmk_err1 (T.e_BadText _ hP) hr rfl (pa_cons pe_int pa_nil))))
        pss_nil)
      (pss_cons (ps_par (i := 1) (j := 2) (by rfl) sc_read_module.nd rfl rfl (by decide) rfl rfl (pa_cons (pe_make0 T.mk_Reader (ok_reader T) (hr.mono (by decide)) rfl T.gC_Reader T.b_Reader_init .nil pass0) (pa_cons (pe_split (pv 0) pe_str) pa_nil)) (by rfl))
      (pss_cons (ps_for (passes_of rfl) rfl (pi_enum (by rfl) T.z_enumerate (pa_cons (pv 2) pa_nil)) (pg_tup rfl (pgs_cons (pg_name (i := 3) sc_read_module.nd rfl (Or.inl rfl)) (pgs_cons (pg_name (i := 4) sc_read_module.nd rfl (Or.inl rfl)) pgs_nil)))
        (pss_one (ps_if (PW.pt (pw_and (pt_cmpR op_ne (pv 4) pe_str (nomark _)) (pw_and1 (pt_not (pt_val (pe_meth (pv 1) T.cl_Reader T.m_Reader_take (ok_rtake T hD) (hr.mono (by decide)) T.b_Reader_take .nil pass0 (pa_cons (pv 4) pa_nil)))))))
        (pss_one (ps_raise rfl (takes_of rfl rfl rfl rfl) (pmk_err1 (T.e_BadText _ hP) hr rfl (pa_cons (pe_op op_add (pv 3) pe_int) pa_nil))))
        pss_nil)))
      (pss_cons (ps_if (pt_not (pt_val (pe_meth (pv 1) T.cl_Reader T.m_Reader_shut (ok_shut T) (hr.mono (by decide)) T.b_Reader_shut .nil pass0 (pa_cons pe_int pa_nil))))
        (pss_one (ps_raise rfl (takes_of rfl rfl rfl rfl) (pmk_err1 (T.e_BadText _ hP) hr rfl (pa_cons (pe_op op_add (pe_callB (call_lenN (K := K)) (by rfl) T.z_len (by decide +kernel) (pa_cons (pv 2) pa_nil)) pe_int) pa_nil))))
        pss_nil)
      (pss_one (ps_ret (pe_callTy call_tuple_of (by rfl) T.z_tuple (by decide +kernel) (pa_cons (pe_fldK (K := K) (pv 1)) pa_nil)))))))), ?_⟩
    rcases h with ⟨z, rfl, hz, kT, kE⟩ | ⟨⟨t, ty, hk⟩, kE⟩
    · refine ⟨_, rfl, _, .ty "str", _, .type "str", true, rfl, .ty "str", .base (.str _), kit_ty (by decide +kernel), _, rfl, iteF ?_⟩
      generalize hls : Txt.split z "\n" = ls at kT kE
      have few := hz.few
      have each := hz.each
      rw [hls] at few each
      intro r dx hx hdx nx
      have sA : Same H (upd (upd H dx (.own r)) r (.ins T.C_Reader dx [])) := fun q o e => by rw [upd_ne (ne_of_none e hx), upd_ne (ne_of_none e hdx)]; exact e
      refine ⟨r, dx, rfl, upd_same, fun H1 sx hR => ⟨rfl, ?_⟩⟩
      obtain ⟨dr, ak, ab, af, fs, D⟩ := hR H sA hx
      have s1 : Same H H1 := D.base
      refine ⟨_, rfl, ⟨_, rfl⟩, z, "\n", rfl, rfl, nl_len, by rw [sizeLine_eq]; have := hz.len; omega, fun l hl => ?_⟩
      rw [hls]
      refine ⟨_, _, rfl, ?_⟩
      have sl := same_new (o := .lst (ls.map V.str)) hl
      have D2 := (D.same sl).rebase
      have below := (D.same sl).below
      generalize hB : hidO (upd H1 l (.lst (ls.map V.str))) (ab :: ak :: af :: fs.flatMap FA.own) = B at D2 below
      have Bl : B l = some (.lst (ls.map V.str)) := by
        rw [← hB, hidO_at (fun h => D.ne_new hl l h rfl)]
        exact upd_same
      refine ⟨_, rfl, l, _, rfl, SqL.at upd_same, ?_⟩
      refine for_it (walk_enum (K := K) (a := l) (xs := ls.map V.str)) (fun i σ H2 => ∃ (v3 v4 : Option V) (R : PR), σ = [some (.str z), some (.ref r), some (.ref l), v3, v4] ∧ Rd T.C_Reader T.C_Frame B H2 r R ∧ R.size ≤ i ∧ R.bound.length ≤ i ∧ readL 0 ⟨[], [], []⟩ ls = readL i R (ls.drop i))
        ⟨none, none, _, rfl, ⟨dr, ak, ab, af, fs, D2⟩, Nat.le_refl _, Nat.le_refl _, by rw [List.drop_zero]⟩ (fun i σ H2 _ ⟨_, _, _, _, D3, _⟩ => SqL.at (D3.base _ _ Bl)) ?_ ?_
      · rintro i x σ H2 H3 hi ⟨v3, v4, R, rfl, D3, hs, hb, er⟩ ⟨Tp, y1, y2, rfl, hT, rfl, e1, e2⟩
        cases e1
        obtain ⟨y, hy, rfl⟩ := get_strs e2
        rw [List.length_map] at hi
        refine ⟨Tp, _, rfl, .inl (.inl upd_same), rfl, _, _, rfl, _, _, rfl, rfl, ?_⟩
        have D4 := D3.same (same_new (o := .tup [.int (i : Nat), .str y]) hT)
        have ed : ls.drop i = y :: ls.drop (i + 1) := by
          rw [List.drop_eq_getElem_cons hi]
          congr 1
          have := List.getElem?_eq_getElem hi
          rw [hy] at this
          exact (Option.some.inj this).symm
        rw [ed] at er
        have er : readL 0 ⟨[], [], []⟩ ls = if y = "" then readL (i + 1) R (ls.drop (i + 1)) else match R.take y with | none => .error (i + 1) | some R' => readL (i + 1) R' (ls.drop (i + 1)) := er
        refine ⟨_, rfl, rfl, _, rfl, ?_⟩
        by_cases h0 : y = ""
        · refine iteDF (by rw [h0]; rfl) (iteF ?_)
          exact ⟨_, _, R, rfl, D4, by omega, by omega, by rw [er, if_pos h0]⟩
        · refine iteDT ?_ ?_
          · rw [Bool.not_eq_true', decide_eq_false_iff_not]
            intro q
            injection q with q
            exact h0 q
          rw [if_neg h0] at er
          obtain ⟨dr, ak, ab, af, fs, D5⟩ := D4
          refine ⟨_, rfl, r, dr, _, rfl, D5.ins, rfl, _, rfl, B, r, R, y, rfl, ⟨dr, ak, ab, af, fs, D5⟩, each y (List.mem_of_getElem? hy), by omega, by omega, fun R' e H5 D6 => ⟨_, rfl, iteF ?_⟩, fun e H5 s5 => ⟨_, rfl, iteT ?_⟩⟩
          · obtain ⟨a1, a2⟩ := take_len e
            exact ⟨_, _, R', rfl, D6, by omega, by omega, by rw [er, e]⟩
          · refine ⟨_, rfl, _, _, rfl, rfl, _, rfl, fun d hd => ?_⟩
            exact kE (i + 1) (by unfold readAll; rw [er, e]) d H5 (below.trans s5) hd
      · rintro σ H2 ⟨v3, v4, R, rfl, D3, hs, hb, er⟩
        rw [List.length_map] at hs hb er
        rw [List.drop_length] at er
        have er : readL 0 ⟨[], [], []⟩ ls = .ok R := er
        obtain ⟨dr, ak, ab, af, fs, D4⟩ := D3
        refine ⟨_, rfl, r, dr, _, rfl, D4.ins, rfl, B, r, R, 0, rfl, ⟨dr, ak, ab, af, fs, D4⟩, by omega, fun R' e H5 D6 => ⟨_, rfl, iteF ?_⟩, fun e H5 s5 => ⟨_, rfl, iteT ?_⟩⟩
        · obtain ⟨dr, ak, ab, af, fs, D7⟩ := D6
          obtain ⟨ys, hy, hys⟩ := D7.kept
          refine ⟨_, rfl, r, _, dr, _, _, rfl, D7.ins, T.cl_Reader, T.at_Reader_kept, rfl, ak, ys, rfl, .inl ⟨SqL.at hy, fun t ht => ?_⟩⟩
          exact kT R'.kept (by unfold readAll; rw [er]; simp only [e]) _ _ ((below.trans D7.base).trans (same_new ht)) (St1.tup ht hys)
        · refine ⟨_, rfl, _, ls.length, rfl, .inl ⟨_, SqL.at (s5 _ _ Bl), by rw [List.length_map]⟩, _, _, rfl, rfl, _, rfl, fun d hd => ?_⟩
          exact kE (ls.length + 1) (by unfold readAll; rw [er]; simp only [e]) d H5 (below.trans s5) hd
    · refine ⟨_, rfl, _, .ty "str", _, .type "str", _, rfl, .ty "str", ty, hk, _, rfl, iteT ?_⟩
      exact ⟨_, rfl, fun d hd => kE d hd⟩
/-- what _law_told gives: the tree, or the number of the line -/
def spTold (K : PySem.W.Frag) : Sp := fun vs H Q _ => ∃ v : V, vs = [v] ∧
  ((∃ z : Str, v = .str z ∧ TextOk z ∧
    (∀ t, readAll (Txt.split z "\n") = .ok t → ∀ v H', Same H H' → St1 H' v (.tuple t) → Q v H') ∧
    (∀ k, readAll (Txt.split z "\n") = .error k → ∀ H', Same H H' → Q (.int (k : Nat)) H')) ∨
   (NoStr K H v ∧ ∀ H', Same H H' → Q (.int (0 : Nat)) H'))
theorem ok_told (T : Txt K mg) (hP : PrOk P) (hD : DcOk w T) : FnOk P w K mg base CX0 13 T.f_law_told T.fd_law_told ["_law_text"] (spTold K) := by
  have GR : FnOk P w K mg base (L2.CX P w) 12 T.f_read_module T.fd_read_module ["text"] (spRead K T.C_BadText) := ok_read T hP hD
  refine T.F_law_told.ok sc_law_told (fun vs H Q E h => ?_) (fun cdv A outer s H vs Q E hr h => ?_)
  · obtain ⟨v, rfl, _⟩ := h
    rfl
  · obtain ⟨v, rfl, h⟩ := h
    refine ⟨_, (pss_cons (ps_asg (pe_tup (pa_cons pe_non (pa_cons pe_non pa_nil))) (pg_tup rfl (pgs_cons (pg_name (i := 1) sc_law_told.nd rfl (Or.inl rfl)) (pgs_cons (pg_name (i := 2) sc_law_told.nd rfl (Or.inl rfl)) pgs_nil))))
      (pss_cons (ps_try_keep (i := 3) rfl rfl rfl sc_law_told.nd rfl rfl ⟨rfl, by decide, .inl T.gC_SpareError⟩
        (fun W pn xe tk _ => (pss_one (ps_set (i := 2) sc_law_told.nd rfl (Or.inl rfl) (pe_callS GR (hr.mono (by decide)) rfl T.g_read_module T.F_read_module.kp T.b_read_module (fun σ => passAt tk σ) (pa_cons (pv 0) pa_nil)))))
        (fun a oe cls d pn hz hf => (pss_one (ps_set (i := 1) sc_law_told.nd rfl (Or.inl rfl) (pv 3)))))
      (pss_cons (ps_if (pt_cmpR op_isN (pv 1) pe_non (nomark _))
        (pss_one (ps_ret (pv 2)))
        pss_nil)
      (pss_one (ps_ret (pe_ifExp (pt_val (pe_callB call_isX (by rfl) T.z_isinstance (by decide +kernel) (pa_cons (pv 1) (pa_cons (pe_glob (v := .ref T.C_BadText) rfl T.gC_BadText rfl) pa_nil)))) (pe_xk (pv 1)) pe_str)))))), ?_⟩
    refine ⟨(by show 2 ≤ sizeLine; decide), fun p hp => ?_⟩
    have sp := same_new (o := .tup [.non, .non]) hp
    refine ⟨p, _, rfl, .inl (.inl upd_same), rfl, _, _, rfl, _, _, rfl, rfl, ?_⟩
    refine ⟨_, rfl, ?_⟩
    refine ⟨v, rfl, ?_⟩
    rcases h with ⟨z, rfl, hz, kT, kE⟩ | ⟨hn, kE⟩
    · refine .inl ⟨z, rfl, hz, fun t e v H' s1 hv => ?_, fun k e d H' s1 hd => ?_⟩
      · exact ⟨_, rfl, rfl, _, rfl, iteT ⟨_, rfl, kT t e v H' (sp.trans s1) hv⟩⟩
      · refine ⟨T.m_BadText, fun a na => ⟨_, rfl, fun _ => ?_⟩⟩
        have ad : d ≠ a := fun z => by rw [← z, upd_same] at na; cases na
        have hd2 : (upd (upd H' d (.xd [("line", .int (k : Nat))])) a (ExK (.ref T.C_BadText) (some d) a)) d = some (.xd [("line", .int (k : Nat))]) := by rw [upd_ne ad, upd_same]
        refine ⟨_, rfl, rfl, _, rfl, iteF ?_⟩
        refine ⟨_, rfl, a, T.C_BadText, some d, .ref T.C_BadText, .ref T.C_BadText, true, rfl, upd_same, .inr ⟨d, _, rfl, hd2⟩, T.x_BadText, .own _, kit_selfT _, true, rfl, iteT ?_⟩
        refine ⟨_, rfl, a, T.C_BadText, d, _, _, rfl, upd_same, hd2, rfl, T.xf_BadText, T.no_BadText_line, ?_⟩
        exact kE k e _ (((sp.trans s1).trans (same_new hd)).trans (same_new na))
    · refine .inr ⟨NoStr.same hn sp, fun d hd => ?_⟩
      refine ⟨T.m_BadText, fun a na => ⟨_, rfl, fun _ => ?_⟩⟩
      have ad : d ≠ a := fun z => by rw [← z, upd_same] at na; cases na
      generalize hG : upd H p (.tup [.non, .non]) = H' at hd na sp
      have hd2 : (upd (upd H' d (.xd [("line", .int (0 : Nat))])) a (ExK (.ref T.C_BadText) (some d) a)) d = some (.xd [("line", .int (0 : Nat))]) := by rw [upd_ne ad, upd_same]
      refine ⟨_, rfl, rfl, _, rfl, iteF ?_⟩
      refine ⟨_, rfl, a, T.C_BadText, some d, .ref T.C_BadText, .ref T.C_BadText, true, rfl, upd_same, .inr ⟨d, _, rfl, hd2⟩, T.x_BadText, .own _, kit_selfT _, true, rfl, iteT ?_⟩
      refine ⟨_, rfl, a, T.C_BadText, d, _, _, rfl, upd_same, hd2, rfl, T.xf_BadText, T.no_BadText_line, ?_⟩
      exact kE _ ((sp.trans (same_new hd)).trans (same_new na))
end
end Sn

/-! ## Expressions that make data: what they give, without their walks -/
namespace Sn
open PySem PySem.Spec PyProof.Rows L2 TL
theorem St1.bl {H : Hp} (b : Bool) : St1 H (.bl b) (.bool b) := fun _ _ => .bl b
theorem St1.int {H : Hp} (i : Int) : St1 H (.int i) (.int i) := fun _ _ => .int i
theorem St1.non {H : Hp} : St1 H .non .none := fun _ _ => .non
theorem St1.isS {H : Hp} {v : V} {z : Str} (h : St1 H v (.str z)) : v = .str z := by cases h H .refl; rfl
theorem St1.isI {H : Hp} {v : V} {i : Int} (h : St1 H v (.int i)) : v = .int i := by cases h H .refl; rfl
theorem St1.isB {H : Hp} {v : V} {b : Bool} (h : St1 H v (.bool b)) : v = .bl b := by cases h H .refl; rfl
theorem St1.isN {H : Hp} {v : V} (h : St1 H v .none) : v = .non := by cases h H .refl; rfl
theorem StA.get {H : Hp} {vs : List V} {ds : List PyData} (a : StA H vs ds) {i : Nat} {d : PyData} (h : ds[i]? = some d) : ∃ v, vs[i]? = some v ∧ St1 H v d := by
  have hi : i < vs.length := by
    rw [a.at.len]
    exact (List.getElem?_eq_some_iff.mp h).1
  refine ⟨vs[i], List.getElem?_eq_getElem hi, fun H' m => ?_⟩
  obtain ⟨e, he, hd⟩ := (a H' m).get (List.getElem?_eq_getElem hi)
  rw [h] at he
  cases he
  exact hd
/-- the expression t makes the data d -/
def Tr (t : TE) (σ : L2.St) (H : Hp) (d : PyData) : Prop := ∀ H1, Same H H1 → ∀ Q : VK, (∀ v H', Same H1 H' → St1 H' v d → Q v H') → t σ H1 Q
def TrA (t : TA) (σ : L2.St) (H : Hp) (ds : List PyData) : Prop := ∀ H1, Same H H1 → ∀ Q : List V → Hp → Prop, (∀ vs H', Same H1 H' → StA H' vs ds → Q vs H') → t σ H1 Q
def TrT (t : TT) (σ : L2.St) (H : Hp) (b : Bool) : Prop := ∀ H1, Same H H1 → ∀ Q : Bool → Hp → Prop, (∀ H', Same H1 H' → Q b H') → t σ H1 Q
def TrS (t : TE) (σ : L2.St) (H : Hp) (z : Str) (n : Nat) : Prop := Tr t σ H (.str z) ∧ z.length ≤ n
section
variable {σ : L2.St} {H : Hp} {t ta tb : TE} {d : PyData} {K : PySem.W.Frag}
theorem Tr.go {Q : VK} (h : Tr t σ H d) (k : ∀ v H', Same H H' → St1 H' v d → Q v H') : t σ H Q := h H (Same.refl H) Q k
theorem TrA.go {t : TA} {ds : List PyData} {Q : List V → Hp → Prop} (h : TrA t σ H ds) (k : ∀ vs H', Same H H' → StA H' vs ds → Q vs H') : t σ H Q := h H (Same.refl H) Q k
theorem TrT.go {t : TT} {b : Bool} {Q : Bool → Hp → Prop} (h : TrT t σ H b) (k : ∀ H', Same H H' → Q b H') : t σ H Q := h H (Same.refl H) Q k
theorem Tr.same {H' : Hp} (h : Tr t σ H d) (s : Same H H') : Tr t σ H' d := fun H1 s1 => h H1 (s.trans s1)
theorem Tr.var {i : Nat} {v : V} (e : σ[i]? = some (some v)) (h : St1 H v d) : Tr (tVar i) σ H d := fun H1 s Q k => ⟨v, e, k v H1 (Same.refl _) (h.mv (MvT.same s))⟩
theorem Tr.str {z : Str} : Tr (tC (.str z)) σ H (.str z) := fun H1 s Q k => k _ H1 (Same.refl _) (.str _)
theorem Tr.int {i : Int} : Tr (tC (.int i)) σ H (.int i) := fun H1 s Q k => k _ H1 (Same.refl _) (.int _)
theorem Tr.bl {b : Bool} : Tr (tC (.bl b)) σ H (.bool b) := fun H1 s Q k => k _ H1 (Same.refl _) (.bl _)
theorem Tr.non : Tr (tC .non) σ H .none := fun H1 s Q k => k _ H1 (Same.refl _) .non
theorem TrA.nil : TrA tNil σ H [] := fun H1 s Q k => k _ H1 (Same.refl _) .nil
theorem TrA.cons {t : TA} {ds : List PyData} (h : Tr ta σ H d) (a : TrA t σ H ds) : TrA (tCons ta t) σ H (d :: ds) := fun H1 s Q k =>
  h H1 s _ fun v H2 s2 hv => a H2 (s.trans s2) _ fun vs H3 s3 hvs => k _ H3 (s2.trans s3) (.cons (hv.mv (MvT.same s3)) hvs)
theorem Tr.tup {t : TA} {ds : List PyData} (h : TrA t σ H ds) (l : ds.length ≤ 1000 := by simp) : Tr (tTup t) σ H (.tuple ds) := fun H1 s Q k =>
  h H1 s _ fun vs H2 s2 hvs => ⟨Nat.le_of_lt (small1000 (by rw [hvs.at.len]; exact l)), fun p hp => k _ _ (s2.trans (same_new hp)) (St1.tup hp hvs)⟩
theorem Tr.ix {ds : List PyData} {i : Int} (j : Nat) (h : Tr ta σ H (.tuple ds)) (e : ds[j]? = some d) (hi : i = (j : Nat) := by rfl) : Tr (tOp (rIxT K) ta (tC (.int i))) σ H d := fun H1 s Q k =>
  h H1 s _ fun v H2 s2 hv => by
    obtain ⟨a, xs, rfl, ha, hxs⟩ := hv.tupAt
    obtain ⟨x, hx, hx1⟩ := hxs.get e
    exact ⟨a, xs, i, x, rfl, rfl, .inl (.inl ha), by rw [hi]; exact atI_nat hx, k _ _ s2 hx1⟩
theorem Tr.andV {p q : Bool} (h : Tr ta σ H (.bool p)) (h2 : Tr tb σ H (.bool q)) : Tr (tAndV ta tb) σ H (.bool (p && q)) := fun H1 s Q k =>
  h H1 s _ fun v H2 s2 hv => by
    refine ⟨p, hv.isB, ?_⟩
    cases p with
    | true => exact iteT (h2 H2 (s.trans s2) _ fun w H3 s3 hw => k _ _ (s2.trans s3) hw)
    | false => exact iteF (k _ _ s2 (.bl _))
theorem Tr.orV {p q : Bool} (h : Tr ta σ H (.bool p)) (h2 : Tr tb σ H (.bool q)) : Tr (tOrV ta tb) σ H (.bool (p || q)) := fun H1 s Q k =>
  h H1 s _ fun v H2 s2 hv => by
    refine ⟨p, hv.isB, ?_⟩
    cases p with
    | true => exact iteT (k _ _ s2 (.bl _))
    | false => exact iteF (h2 H2 (s.trans s2) _ fun w H3 s3 hw => k _ _ (s2.trans s3) hw)
theorem Tr.notV {p : Bool} (h : Tr ta σ H (.bool p)) : Tr (tNotV ta) σ H (.bool (!p)) := fun H1 s Q k => h H1 s _ fun v H2 s2 hv => ⟨p, hv.isB, k _ _ s2 (.bl _)⟩
theorem Tr.eqS {x y : Str} (h : Tr ta σ H (.str x)) (h2 : Tr tb σ H (.str y)) : Tr (tOp rEq ta tb) σ H (.bool (decide (x = y))) := fun H1 s Q k =>
  h H1 s _ fun v H2 s2 hv => h2 H2 (s.trans s2) _ fun w H3 s3 hw => by
    rw [hv.isS, hw.isS]
    refine ⟨rfl, ?_⟩
    rw [show decide (V.str x = V.str y) = decide (x = y) from decide_eq_decide.mpr ⟨fun e => by injection e, fun e => by rw [e]⟩]
    exact k _ _ (s2.trans s3) (.bl _)
theorem Tr.neS {x y : Str} (h : Tr ta σ H (.str x)) (h2 : Tr tb σ H (.str y)) : Tr (tOp rNe ta tb) σ H (.bool (!decide (x = y))) := fun H1 s Q k =>
  h H1 s _ fun v H2 s2 hv => h2 H2 (s.trans s2) _ fun w H3 s3 hw => by
    rw [hv.isS, hw.isS]
    refine ⟨rfl, ?_⟩
    rw [show decide (V.str x = V.str y) = decide (x = y) from decide_eq_decide.mpr ⟨fun e => by injection e, fun e => by rw [e]⟩]
    exact k _ _ (s2.trans s3) (.bl _)
theorem Tr.eqI {x y : Int} (h : Tr ta σ H (.int x)) (h2 : Tr tb σ H (.int y)) : Tr (tOp rEq ta tb) σ H (.bool (decide (x = y))) := fun H1 s Q k =>
  h H1 s _ fun v H2 s2 hv => h2 H2 (s.trans s2) _ fun w H3 s3 hw => by
    rw [hv.isI, hw.isI]
    refine ⟨rfl, ?_⟩
    rw [show decide (V.int x = V.int y) = decide (x = y) from decide_eq_decide.mpr ⟨fun e => by injection e, fun e => by rw [e]⟩]
    exact k _ _ (s2.trans s3) (.bl _)
theorem Tr.neI {x y : Int} (h : Tr ta σ H (.int x)) (h2 : Tr tb σ H (.int y)) : Tr (tOp rNe ta tb) σ H (.bool (!decide (x = y))) := fun H1 s Q k =>
  h H1 s _ fun v H2 s2 hv => h2 H2 (s.trans s2) _ fun w H3 s3 hw => by
    rw [hv.isI, hw.isI]
    refine ⟨rfl, ?_⟩
    rw [show decide (V.int x = V.int y) = decide (x = y) from decide_eq_decide.mpr ⟨fun e => by injection e, fun e => by rw [e]⟩]
    exact k _ _ (s2.trans s3) (.bl _)
theorem Tr.opB {g : Int → Int → Bool} {x y : Int} (h : Tr ta σ H (.int x)) (h2 : Tr tb σ H (.int y)) : Tr (tOp (rI0 fun i j => .bl (g i j)) ta tb) σ H (.bool (g x y)) := fun H1 s Q k =>
  h H1 s _ fun v H2 s2 hv => h2 H2 (s.trans s2) _ fun w H3 s3 hw => ⟨x, y, hv.isI, hw.isI, k _ _ (s2.trans s3) (.bl _)⟩
theorem Tr.opI {g : Int → Int → Int} {x y : Int} (h : Tr ta σ H (.int x)) (h2 : Tr tb σ H (.int y)) : Tr (tOp (rI0 fun i j => .int (g i j)) ta tb) σ H (.int (g x y)) := fun H1 s Q k =>
  h H1 s _ fun v H2 s2 hv => h2 H2 (s.trans s2) _ fun w H3 s3 hw => ⟨x, y, hv.isI, hw.isI, k _ _ (s2.trans s3) (.int _)⟩
theorem Tr.lenS {z : Str} (h : Tr ta σ H (.str z)) (hz : z.length ≤ 1000) : Tr (tCB (fun xs H Q => ∃ x n, xs = [x] ∧ LenV K x H n ∧ Q (V.int (n : Nat)) H) (tCons ta tNil)) σ H (.int (z.length : Nat)) := fun H1 s Q k =>
  h H1 s _ fun v H2 s2 hv => ⟨v, z.length, rfl, by rw [hv.isS]; exact ⟨Nat.le_of_lt (small1000 hz), rfl⟩, k _ _ s2 (.int _)⟩
theorem Tr.lenT {ds : List PyData} (h : Tr ta σ H (.tuple ds)) : Tr (tCB (fun xs H Q => ∃ x n, xs = [x] ∧ LenV K x H n ∧ Q (V.int (n : Nat)) H) (tCons ta tNil)) σ H (.int (ds.length : Nat)) := fun H1 s Q k =>
  h H1 s _ fun v H2 s2 hv => by
    obtain ⟨a, xs, rfl, ha, hxs⟩ := hv.tupAt
    exact ⟨_, ds.length, rfl, .inr ⟨_, .inl (.inl ha), hxs.at.len.symm⟩, k _ _ s2 (.int _)⟩
theorem Tr.max2 {x y : Int} (h : Tr ta σ H (.int x)) (h2 : Tr tb σ H (.int y)) : Tr (tCB (fun xs H Q => ∃ i j, xs = [V.int i, V.int j] ∧ Q (.int (if j > i then j else i)) H) (tCons ta (tCons tb tNil))) σ H (.int (if y > x then y else x)) := fun H1 s Q k =>
  h H1 s _ fun v H2 s2 hv => h2 H2 (s.trans s2) _ fun w H3 s3 hw => ⟨x, y, by rw [hv.isI, hw.isI], k _ _ (s2.trans s3) (.int _)⟩
theorem Tr.ifE {tt : TT} {b : Bool} (h : TrT tt σ H b) (h1 : b = true → Tr ta σ H d) (h2 : b = false → Tr tb σ H d) : Tr (tIf tt ta tb) σ H d := fun H1 s Q k =>
  h H1 s _ fun H2 s2 => by
    cases b with
    | true => exact iteT (h1 rfl H2 (s.trans s2) _ fun w H3 s3 hw => k _ _ (s2.trans s3) hw)
    | false => exact iteF (h2 rfl H2 (s.trans s2) _ fun w H3 s3 hw => k _ _ (s2.trans s3) hw)
theorem TrT.ofB {b : Bool} (h : Tr t σ H (.bool b)) : TrT (tB t) σ H b := fun H1 s Q k => h H1 s _ fun v H2 s2 hv => ⟨b, hv.isB, k _ s2⟩
theorem TrT.test {b : Bool} (h : Tr t σ H (.bool b)) : TrT (tTest t) σ H b := fun H1 s Q k => h H1 s _ fun v H2 s2 hv => ⟨b, hv.isB, k _ s2⟩
theorem TrT.not {t : TT} {b : Bool} (h : TrT t σ H b) : TrT (tNot t) σ H (!b) := fun H1 s Q k => h H1 s _ fun H2 s2 => k _ s2
theorem TrT.and {t u : TT} {a b : Bool} (h : TrT t σ H a) (h2 : TrT u σ H b) : TrT (tAnd t u) σ H (a && b) := fun H1 s Q k =>
  h H1 s _ fun H2 s2 => by
    cases a with
    | true => exact iteT (h2 H2 (s.trans s2) _ fun H3 s3 => k _ (s2.trans s3))
    | false => exact iteF (k _ s2)
theorem TrT.or {t u : TT} {a b : Bool} (h : TrT t σ H a) (h2 : TrT u σ H b) : TrT (tOr t u) σ H (a || b) := fun H1 s Q k =>
  h H1 s _ fun H2 s2 => by
    cases a with
    | true => exact iteT (k _ s2)
    | false => exact iteF (h2 H2 (s.trans s2) _ fun H3 s3 => k _ (s2.trans s3))
theorem TrS.tr {z : Str} {n : Nat} (h : TrS t σ H z n) : Tr t σ H (.str z) := h.1
theorem TrS.lit {z : Str} (h : z.length ≤ 40) : TrS (tC (.str z)) σ H z 40 := ⟨Tr.str, h⟩
theorem TrS.var {i : Nat} {z : Str} {n : Nat} (e : σ[i]? = some (some (.str z))) (h : z.length ≤ n) : TrS (tVar i) σ H z n := ⟨Tr.var e (.str _), h⟩
theorem TrS.of {z : Str} {n : Nat} (h : Tr t σ H (.str z)) (hz : z.length ≤ n) : TrS t σ H z n := ⟨h, hz⟩
theorem len_app (x y : Str) : (x ++ y).length = x.length + y.length := by rw [len_tl, tl_append, List.length_append, ← len_tl, ← len_tl]
theorem TrS.cat {x y : Str} {n m : Nat} (h : TrS ta σ H x n) (h2 : TrS tb σ H y m) (hb : n + m ≤ 1000000 := by decide) :
    TrS (tOp (fun x y H Q => ∃ i j, x = .str i ∧ y = .str j ∧ i.length + j.length ≤ sizeLine ∧ Q (.str (i ++ j)) H) ta tb) σ H (x ++ y) (n + m) := by
  have l1 := h.2
  have l2 := h2.2
  refine ⟨fun H1 s Q k => h.1 H1 s _ fun v H2 s2 hv => h2.1 H2 (s.trans s2) _ fun w H3 s3 hw => ⟨x, y, hv.isS, hw.isS, by rw [sizeLine_eq]; omega, k _ _ (s2.trans s3) (.str _)⟩, by rw [len_app]; omega⟩
theorem TrS.cut {x : Str} {n : Nat} {i : Int} (h : TrS ta σ H x n) (hb : n ≤ 1000 := by decide) : TrS (tSl rSlS ta tNoPart (tPart (tC (.int i)))) σ H (cutS x none (some i)) n := by
  have l1 := h.2
  refine ⟨fun H1 s Q k => h.1 H1 s _ fun v H2 s2 hv => ⟨i, rfl, x, hv.isS, Nat.le_of_lt (small1000 (by omega)), k _ _ s2 (.str _)⟩, ?_⟩
  have : (cutS x none (some i)).length ≤ x.length := by
    rw [len_tl, len_tl]
    show (((tl x).drop _).take _).length ≤ _
    rw [List.length_take, List.length_drop]
    omega
  omega
theorem StA.strs {vs : List V} : ∀ {zs : List Str}, StA H vs (zs.map PyData.str) → vs = zs.map V.str := by
  intro zs h
  have := h H .refl
  clear h
  induction zs generalizing vs with
  | nil => cases this; rfl
  | cons z zs ih =>
    cases this with
    | cons a b =>
      cases a
      rw [ih b]; rfl
theorem Tr.ifT {tt : TT} {b : Bool} (h : TrT tt σ H b) (hb : b = true) (h1 : Tr ta σ H d) : Tr (tIf tt ta tb) σ H d := Tr.ifE h (fun _ => h1) fun q => by rw [hb] at q; cases q
theorem Tr.ifF {tt : TT} {b : Bool} (h : TrT tt σ H b) (hb : b = false) (h1 : Tr tb σ H d) : Tr (tIf tt ta tb) σ H d := Tr.ifE h (fun q => by rw [hb] at q; cases q) fun _ => h1
theorem St1.tup3 {v : V} {d1 d2 d3 : PyData} (h : St1 H v (.tuple [d1, d2, d3])) : ∃ a v1 v2 v3, v = .ref a ∧ H a = some (.tup [v1, v2, v3]) ∧ St1 H v1 d1 ∧ St1 H v2 d2 ∧ St1 H v3 d3 := by
  obtain ⟨a, vs, rfl, ha, hvs⟩ := h.tupAt
  have ln := hvs.at.len
  obtain ⟨v1, e1, h1⟩ := hvs.get (i := 0) rfl
  obtain ⟨v2, e2, h2⟩ := hvs.get (i := 1) rfl
  obtain ⟨v3, e3, h3⟩ := hvs.get (i := 2) rfl
  match vs, ln, e1, e2, e3 with
  | [x, y, z], _, e1, e2, e3 =>
    cases e1
    cases e2
    cases e3
    exact ⟨a, _, _, _, rfl, ha, h1, h2, h3⟩
theorem St1.tup2 {v : V} {d1 d2 : PyData} (h : St1 H v (.tuple [d1, d2])) : ∃ a v1 v2, v = .ref a ∧ H a = some (.tup [v1, v2]) ∧ St1 H v1 d1 ∧ St1 H v2 d2 := by
  obtain ⟨a, vs, rfl, ha, hvs⟩ := h.tupAt
  have ln := hvs.at.len
  obtain ⟨v1, e1, h1⟩ := hvs.get (i := 0) rfl
  obtain ⟨v2, e2, h2⟩ := hvs.get (i := 1) rfl
  match vs, ln, e1, e2 with
  | [x, y], _, e1, e2 =>
    cases e1
    cases e2
    exact ⟨a, _, _, rfl, ha, h1, h2⟩
/-! ### statements -/
theorem ret_tr {D : Ends} (h : Tr t σ H d) (k : ∀ v H', Same H H' → St1 H' v d → D.rt v H') : tRet t D σ H := h.go k
theorem asg_tr {i : Nat} {D : Ends} (h : Tr t σ H d) (k : ∀ v H', Same H H' → St1 H' v d → D.nx (σ.set i (some v)) H') : tAsg t (gName i) D σ H := h.go k
theorem lst_tr {a : TA} {ds : List PyData} {Q : VK} (h : TrA a σ H ds) (l : ds.length ≤ 1000) (k : ∀ vs H' q, Same H H' → StA H' vs ds → H' q = none → Q (.ref q) (upd H' q (.lst vs))) : tLst a σ H Q :=
  h.go fun vs H' s hvs => ⟨Nat.le_of_lt (small1000 (by rw [hvs.at.len]; exact l)), fun q hq => k vs H' q s hvs hq⟩
theorem asg_lst {i : Nat} {a : TA} {ds : List PyData} {D : Ends} (h : TrA a σ H ds) (l : ds.length ≤ 1000) (k : ∀ vs H' q, Same H H' → StA H' vs ds → H' q = none → D.nx (σ.set i (some (.ref q))) (upd H' q (.lst vs))) : tAsg (tLst a) (gName i) D σ H := lst_tr h l k
theorem if_tr {c : TT} {u w : TS} {D : Ends} {b : Bool} (h : TrT c σ H b) (k1 : b = true → ∀ H', Same H H' → u D σ H') (k2 : b = false → ∀ H', Same H H' → w D σ H') : tIfS c u w D σ H := h.go fun H' s => by
  cases b with
  | true => exact iteT (k1 rfl H' s)
  | false => exact iteF (k2 rfl H' s)
theorem par_tr {i j : Nat} {a : TA} {D : Ends} {d1 d2 : PyData} (h : TrA a σ H [d1, d2]) (k : ∀ v1 v2 H', Same H H' → St1 H' v1 d1 → St1 H' v2 d2 → D.nx ((σ.set i (some v1)).set j (some v2)) H') : tPar i j a D σ H :=
  h.go fun vs H' s hvs => by
    have l := hvs.at.len
    obtain ⟨v1, e1, h1⟩ := hvs.get (i := 0) rfl
    obtain ⟨v2, e2, h2⟩ := hvs.get (i := 1) rfl
    match vs, l, e1, e2 with
    | [x, y], _, e1, e2 =>
      cases e1
      cases e2
      exact ⟨_, _, rfl, k _ _ H' s h1 h2⟩
theorem par3_tr {i j l : Nat} {a : TA} {D : Ends} {d1 d2 d3 : PyData} (h : TrA a σ H [d1, d2, d3]) (k : ∀ v1 v2 v3 H', Same H H' → St1 H' v1 d1 → St1 H' v2 d2 → St1 H' v3 d3 → D.nx (((σ.set i (some v1)).set j (some v2)).set l (some v3)) H') : tPar3 i j l a D σ H :=
  h.go fun vs H' s hvs => by
    have ln := hvs.at.len
    obtain ⟨v1, e1, h1⟩ := hvs.get (i := 0) rfl
    obtain ⟨v2, e2, h2⟩ := hvs.get (i := 1) rfl
    obtain ⟨v3, e3, h3⟩ := hvs.get (i := 2) rfl
    match vs, ln, e1, e2, e3 with
    | [x, y, z], _, e1, e2, e3 =>
      cases e1
      cases e2
      cases e3
      exact ⟨_, _, _, rfl, k _ _ _ H' s h1 h2 h3⟩
end
end Sn

/-! ## The laws' drawn words and names: _law_reserved, _law_any_word, _law_any_name -/
namespace Sn
open PySem PySem.Spec PyProof.Rows L2 TL
def wordsS : Str := "as ask call def each else entry except fail if in let offer return set table there try use"
theorem words_split : Txt.split wordsS " " = resv := by decide +kernel
section
variable {P : Program} {w : World} {K : PySem.W.Frag} {mg : Str → Option Value} {base : Heap}
def spRes : Sp := fun vs H Q _ => vs = [] ∧ ∀ p, H p = none → Q (.ref p) (upd H p (.lst (resv.map V.str)))
theorem ok_reserved (T : Txt K mg) : FnOk P w K mg base CX0 1 T.f_law_reserved T.fd_law_reserved [] spRes := by
  refine T.F_law_reserved.ok sc_law_reserved (fun vs H Q E h => ?_) (fun cdv A outer s H vs Q E hr h => ?_)
  · obtain ⟨rfl, _⟩ := h
    rfl
  · obtain ⟨rfl, k⟩ := h
    refine ⟨_, pss_cons (ps_set (i := 0) sc_law_reserved.nd rfl (Or.inl rfl) pe_str) (pss_one (ps_ret (pe_split (pv 0) pe_str))), ?_⟩
    refine ⟨_, rfl, ⟨_, rfl⟩, wordsS, " ", rfl, rfl, by decide +kernel, by decide +kernel, fun p hp => ?_⟩
    rw [words_split]
    exact k p hp
end
end Sn

/-! ## The parser at lines that are put together of words -/
namespace Sn
open PySem PySem.Spec PyProof.Rows L2 TL
/-- r stands from i on -/
def At (L : List Nat) (i : Nat) (r : List Nat) : Prop := L.drop i = r
theorem At.zero (L : List Nat) : At L 0 L := rfl
theorem At.go {L : List Nat} {i : Nat} {a r : List Nat} (h : At L i (a ++ r)) : At L (i + a.length) r := by
  unfold At at h ⊢
  rw [← List.drop_drop, h, List.drop_left]
theorem At.goS {L : List Nat} {i : Nat} {a : Str} {r : List Nat} (h : At L i (tl a ++ r)) : At L (i + a.length) r := by
  rw [len_tl]
  exact h.go
theorem At.len {L : List Nat} {i : Nat} (h : At L i []) (hi : i ≤ L.length) : i = L.length := by
  unfold At at h
  have := congrArg List.length h
  rw [List.length_drop] at this
  have e : ([] : List Nat).length = 0 := rfl
  omega
theorem At.pos {L : List Nat} {i c : Nat} {r : List Nat} (h : At L i (c :: r)) : i < L.length := by
  unfold At at h
  have := congrArg List.length h
  rw [List.length_drop, List.length_cons] at this
  omega
theorem tk {L : List Nat} {i : Nat} {s : Str} {r : List Nat} (h : At L i (tl s ++ r)) : pTake s L i = true := by
  unfold pTake
  rw [show L.drop i = _ from h, len_tl, List.take_left]
  exact decide_eq_true rfl
theorem tkE {L : List Nat} {i : Nat} {s : Str} (h : At L i (tl s)) : pTake s L i = true := tk (r := []) (by rw [List.append_nil]; exact h)
theorem tkN {L : List Nat} {i : Nat} {s : Str} {r : List Nat} (h : At L i r) (n : decide (r.take s.length = tl s) = false) : pTake s L i = false := by
  unfold pTake
  rw [show L.drop i = _ from h]
  exact n
theorem tkC {L : List Nat} {i c : Nat} {s : Str} {r : List Nat} (h : At L i r) (hc : c ∈ tl s) (n : c ∉ r) : pTake s L i = false := by
  refine tkN h (decide_eq_false fun e => n ?_)
  rw [← e] at hc
  exact List.mem_of_mem_take hc
theorem tkL {L : List Nat} {i : Nat} {s : Str} {l r : List Nat} (e : tl s = l) (h : At L i (l ++ r)) : pTake s L i = true := tk (by rw [e]; exact h)
theorem tkF {L : List Nat} {i : Nat} {s : Str} {l r : List Nat} (e : tl s = l) (h : At L i r) (n : decide (r.take l.length = l) = false) : pTake s L i = false := tkN h (by rw [len_tl, e]; exact n)
/-- all are signs -/
def Sg (a : Str) : Prop := ∀ c ∈ tl a, c ∈ tl sgnS
/-- the next one is no sign -/
def Stp (r : List Nat) : Prop := ∀ c, r.head? = some c → c ∉ tl sgnS
/-- a word that is not empty, perhaps too long -/
def Wd (a : Str) : Prop := Sg a ∧ tl a ≠ []
theorem Stp.nil : Stp [] := fun c h => nomatch h
theorem Stp.one {c : Nat} {r : List Nat} (h : c ∉ tl sgnS) : Stp (c :: r) := fun d e => by
  cases e
  exact h
theorem takeW {a r : List Nat} {p : Nat → Bool} (h : ∀ c ∈ a, p c = true) (n : ∀ c, r.head? = some c → p c = false) : (a ++ r).takeWhile p = a := by
  induction a with
  | nil =>
    cases r with
    | nil => rfl
    | cons x r => rw [List.nil_append, List.takeWhile_cons_of_neg (by rw [n x rfl]; decide)]
  | cons x a ih => rw [List.cons_append, List.takeWhile_cons_of_pos (h x (by simp)), ih fun c hc => h c (by simp [hc])]
theorem str_eta (a : Str) : (⟨(tl a).toArray⟩ : Str) = a := by
  obtain ⟨⟨l⟩⟩ := a
  rfl
section
variable {L : List Nat} {i : Nat} {a b : Str} {r : List Nat}
theorem at_signs (h : At L i (tl a ++ r)) (hs : Sg a) (st : Stp r) : pSigns L i = tl a := by
  unfold pSigns
  rw [show L.drop i = _ from h]
  exact takeW (fun c hc => decide_eq_true (hs c hc)) fun c hc => decide_eq_false (st c hc)
theorem at_word (h : At L i (tl a ++ r)) (hs : Sg a) (st : Stp r) : pWord L i = if a.length ≤ 8 then some (a, i + a.length) else none := by
  unfold pWord
  rw [at_signs h hs st, ← len_tl, str_eta]
theorem isN_len' (h : isN a = true) : a.length ≤ 8 := by
  unfold isN isW at h
  simp only [Bool.and_eq_true, decide_eq_true_eq] at h
  exact h.1.1
theorem at_name (h : At L i (tl a ++ r)) (hs : Sg a) (st : Stp r) : pName L i = if isN a = true then some (a, i + a.length) else none := by
  unfold pName
  rw [at_word h hs st]
  by_cases h8 : a.length ≤ 8
  · rw [if_pos h8]; rfl
  · rw [if_neg h8, if_neg (fun q => h8 (isN_len' q))]; rfl
theorem q_no : (34 : Nat) ∉ tl sgnS := by decide +kernel
theorem wd_noq (h : At L i (tl a ++ r)) (hw : Wd a) {s : Str} {c : Nat} {t : List Nat} (e : tl s = c :: t) (n : c ∉ tl sgnS) : pTake s L i = false := by
  obtain ⟨hs, hne⟩ := hw
  cases ha : tl a with
  | nil => exact absurd ha hne
  | cons x y =>
    rw [ha] at h
    refine tkN h (decide_eq_false fun q => ?_)
    rw [len_tl, e, List.length_cons, List.cons_append, List.take_succ_cons] at q
    injection q with q _
    exact n (q ▸ hs x (by rw [ha]; simp))
theorem part_name (h : At L i (tl a ++ r)) (hw : Wd a) (st : Stp r) : pPart L i = if isN a = true then some (.tuple [.str "name", .str a], i + a.length) else none := by
  unfold pPart
  rw [wd_noq h hw (s := "\"") (c := 34) (t := []) (by decide +kernel) q_no, if_neg (by decide)]
  unfold pMap
  rw [at_name h hw.1 st]
  split <;> rfl
theorem one_q : ("\"" : Str).length = 1 := by decide +kernel
theorem tl_q : tl ("\"" : Str) = [34] := by decide +kernel
theorem part_text (h : At L i (34 :: (tl b ++ 34 :: r))) (hs : Sg b) : pPart L i = if b.length ≤ 8 then some (.tuple [.str "text", .str b], i + 1 + b.length + 1) else none := by
  have h0 : At L i (tl ("\"" : Str) ++ (tl b ++ 34 :: r)) := by rw [tl_q]; exact h
  have h1 := h0.goS
  unfold pPart
  rw [tk h0, if_pos rfl]
  unfold pMap pQuoted pBef pAft
  rw [tk h0, if_pos rfl, at_word h1 hs (Stp.one q_no)]
  by_cases h8 : b.length ≤ 8
  · rw [if_pos h8, if_pos h8]
    have h2 := h1.goS
    have : At L (i + ("\"" : Str).length + b.length) (tl ("\"" : Str) ++ r) := by rw [tl_q]; exact h2
    simp only [Option.bind_some]
    rw [tk this, if_pos rfl, one_q]; rfl
  · rw [if_neg h8, if_neg h8]; rfl
theorem expr_none (h : pPart L i = none) : pExpr L i = none := by
  unfold pExpr pParts
  rw [h]; rfl
theorem expr_one {d : PyData} {j : Nat} (h : pPart L i = some (d, j)) (n : pTake " + " L j = false) : pExpr L i = some (.tuple [d], j) := by
  unfold pExpr pParts
  rw [h]
  simp only [Option.bind_some]
  rw [n, if_neg (by decide)]; rfl
theorem expr_two {d e : PyData} {j k : Nat} (hL : 0 < L.length) (h : pPart L i = some (d, j)) (n : pTake " + " L j = true) (h2 : pPart L (j + 3) = some (e, k)) (n2 : pTake " + " L k = false) : pExpr L i = some (.tuple [d, e], k) := by
  obtain ⟨f, hf⟩ : ∃ f, L.length = f + 1 := ⟨L.length - 1, by omega⟩
  unfold pExpr
  rw [hf]
  unfold pParts
  rw [h]
  simp only [Option.bind_some]
  rw [n, if_pos rfl]
  unfold pParts
  rw [h2]
  simp only [Option.bind_some]
  rw [n2, if_neg (by decide)]; rfl
theorem expr_two_none {d : PyData} {j : Nat} (hL : 0 < L.length) (h : pPart L i = some (d, j)) (n : pTake " + " L j = true) (h2 : pPart L (j + 3) = none) : pExpr L i = none := by
  obtain ⟨f, hf⟩ : ∃ f, L.length = f + 1 := ⟨L.length - 1, by omega⟩
  unfold pExpr
  rw [hf]
  unfold pParts
  rw [h]
  simp only [Option.bind_some]
  rw [n, if_pos rfl]
  unfold pParts
  rw [h2]; rfl
end
end Sn

/-! ## Lines of a text, and what reading a line does -/
namespace Sn
open PySem PySem.Spec PyProof.Rows L2 TL
/-- the whole line is read -/
def pWhole (p : Ps PyData) (L : List Nat) : Option PyData := (p L 0).bind fun r => if L.drop r.2 = [] then some r.1 else none
theorem tl_nl : tl ("\n" : Str) = [10] := by decide +kernel
theorem split_nl {z : Str} {ls : List Str} (hz : tl z = TL.joinL [10] (ls.map tl)) (hne : ls ≠ []) (h : ∀ l ∈ ls, 10 ∉ tl l) : Txt.split z "\n" = ls := by
  apply map_tl_inj
  have e := split_spl z "\n" (by rw [tl_nl]; simp) (kind_ok (by decide +kernel))
  rw [e, tl_nl, hz]
  exact TL.spl_join (by simpa using hne) fun p hp => by
    obtain ⟨l, hl, rfl⟩ := List.mem_map.mp hp
    exact h l hl
/-- a line as the reader looks at it: no blank ahead, no second line, not empty -/
structure Ln (z : Str) : Prop where
  nb : ∀ c, (tl z).head? = some c → c ≠ 32
  n2 : ¬ (z = "else:" ∨ z = "except:")
  ne : tl z ≠ []
def litOk (s : Str) : Bool := (match tl s with | [] => false | c :: _ => decide (c ≠ 32)) && !pTake s (tl ("else:" : Str)) 0 && !pTake s (tl ("except:" : Str)) 0
theorem ln_lit {z s : Str} {r : List Nat} (e : tl z = tl s ++ r) (h : litOk s = true) : Ln z := by
  unfold litOk at h
  simp only [Bool.and_eq_true, Bool.not_eq_true'] at h
  obtain ⟨⟨h1, h2⟩, h3⟩ := h
  have ht : pTake s (tl z) 0 = true := tk (i := 0) (r := r) (by rw [e]; rfl)
  cases hs : tl s with
  | nil => rw [hs] at h1; cases h1
  | cons c t =>
    rw [hs] at h1
    have h1 : c ≠ 32 := of_decide_eq_true h1
    refine ⟨fun d hd => ?_, fun q => ?_, ?_⟩
    · rw [e, hs] at hd
      cases hd
      exact h1
    · rcases q with q | q
      · rw [q, h2] at ht; cases ht
      · rw [q, h3] at ht; cases ht
    · rw [e, hs]; simp
theorem ln_word {a : Str} (h : Wd a) : Ln a := by
  refine ⟨fun c hc e => ?_, fun q => ?_, h.2⟩
  · have : c ∈ tl a := List.mem_of_mem_head? hc
    have := h.1 c this
    rw [e] at this
    exact absurd this (by decide +kernel)
  · have k : (58 : Nat) ∈ tl a := by
      rcases q with q | q
      · rw [q]; decide +kernel
      · rw [q]; decide +kernel
    exact absurd (h.1 _ k) (by decide +kernel)
theorem dropRep {n : Nat} {l : List Nat} (h : ∀ c, l.head? = some c → c ≠ 32) : (List.replicate n 32 ++ l).dropWhile (fun c => decide (c = 32)) = l := by
  induction n with
  | zero =>
    cases l with
    | nil => rfl
    | cons x r => rw [List.replicate_zero, List.nil_append, List.dropWhile_cons_of_neg (by simpa using h x rfl)]
  | succ n ih => rw [List.replicate_succ, List.cons_append, List.dropWhile_cons_of_pos (by decide), ih]
theorem strip_in {z s : Str} {n : Nat} (hz : tl z = List.replicate n 32 ++ tl s) (hs : Ln s) : strip z = s ∧ z.length - (strip z).length = n := by
  have e : strip z = s := by
    unfold strip
    rw [hz, dropRep hs.nb]
  refine ⟨e, ?_⟩
  rw [e, len_tl, len_tl s, hz, List.length_append, List.length_replicate]
  omega
/-- a line at a level -/
theorem take_in {R : PR} {z s : Str} {k : Nat} (hz : tl z = List.replicate (4 * k) 32 ++ tl s) (hs : Ln s) : R.take z = if R.frames.length < k then none else
    (pWhole (if k = 0 then pItem else pStmt) (tl s)).bind fun d => (R.shut k).bind fun R' => R'.takeHead d k := by
  obtain ⟨e1, e2⟩ := strip_in hz hs
  unfold PR.take
  rw [e2, e1]
  have h4 : 4 * k % 4 = 0 := by omega
  have h5 : 4 * k / 4 = k := by omega
  rw [h4, h5]
  by_cases hk : R.frames.length < k
  · rw [if_pos (.inr hk), if_pos hk]
  · rw [if_neg (fun q => q.elim (fun q => q rfl) hk), if_neg hk]
    unfold PR.line pWhole
    rw [if_neg hs.n2]
    cases (if k = 0 then pItem else pStmt) (tl s) 0 with
    | none => rfl
    | some r =>
      obtain ⟨d, j⟩ := r
      show (if (tl s).drop j ≠ [] then none else _) = Option.bind (if (tl s).drop j = [] then some d else none) _
      by_cases hd : (tl s).drop j = []
      · rw [if_neg (fun q => q hd), if_pos hd]; rfl
      · rw [if_pos hd, if_neg hd]; rfl
theorem ne_emp' {z : Str} (h : tl z ≠ []) : z ≠ "" := fun e => h (by rw [e]; decide +kernel)
theorem readL_cons {n : Nat} {R : PR} {z : Str} {zs : List Str} (h : tl z ≠ []) : readL n R (z :: zs) = match R.take z with | none => .error (n + 1) | some R' => readL (n + 1) R' zs := by
  show (if z = "" then _ else _) = _
  rw [if_neg (ne_emp' h)]
  try (cases R.take z <;> rfl)
def R0 : PR := ⟨[], [], []⟩
theorem readAll_err {ls : List Str} {k : Nat} (h : readL 0 R0 ls = .error k) : readAll ls = .error k := by
  unfold readAll
  rw [show (⟨[], [], []⟩ : PR) = R0 from rfl, h]
theorem readAll_ok {ls : List Str} {R R' : PR} (h : readL 0 R0 ls = .ok R) (h2 : R.shut 0 = some R') : readAll ls = .ok R'.kept := by
  unfold readAll
  rw [show (⟨[], [], []⟩ : PR) = R0 from rfl, h]
  show (match R.shut 0 with | none => Except.error (ls.length + 1) | some R' => Except.ok R'.kept) = _
  rw [h2]
theorem readAll_end {ls : List Str} {R : PR} (h : readL 0 R0 ls = .ok R) (h2 : R.shut 0 = none) : readAll ls = .error (ls.length + 1) := by
  unfold readAll
  rw [show (⟨[], [], []⟩ : PR) = R0 from rfl, h]
  show (match R.shut 0 with | none => Except.error (ls.length + 1) | some R' => Except.ok R'.kept) = _
  rw [h2]
theorem readL_bad {n : Nat} {R : PR} {z : Str} {zs : List Str} (hz : tl z ≠ []) (h : R.take z = none) : readL n R (z :: zs) = .error (n + 1) := by
  rw [readL_cons hz, h]
theorem readL_good {n : Nat} {R R' : PR} {z : Str} {zs : List Str} (hz : tl z ≠ []) (h : R.take z = some R') : readL n R (z :: zs) = readL (n + 1) R' zs := by
  rw [readL_cons hz, h]
theorem readL_skip {n : Nat} {R : PR} {zs : List Str} : readL n R ("" :: zs) = readL (n + 1) R zs := by
  show (if ("" : Str) = "" then _ else _) = _
  rw [if_pos rfl]
/-- a head that opens nothing is kept; one that opens a block opens a frame -/
theorem takeHead_plain {R : PR} {w : Str} {rest : List PyData} {lv : Nat} (hb : w ∉ binders) (ho : w ∉ openers) : R.takeHead (.tuple (.str w :: rest)) lv = some (R.keep (.tuple (.str w :: rest))) := by
  unfold PR.takeHead PR.bind
  rw [if_neg (show hdW (.tuple (.str w :: rest)) ∉ binders from hb)]
  show R.put (.tuple (.str w :: rest)) lv = _
  unfold PR.put
  rw [if_pos (show hdW (.tuple (.str w :: rest)) ∉ openers from ho)]
theorem takeHead_open {R : PR} {w : Str} {rest : List PyData} {lv : Nat} (hb : w ∉ binders) (ho : w ∈ openers) (hl : lv < 4) : R.takeHead (.tuple (.str w :: rest)) lv = some { R with frames := ⟨w, rest, none, []⟩ :: R.frames } := by
  unfold PR.takeHead PR.bind
  rw [if_neg (show hdW (.tuple (.str w :: rest)) ∉ binders from hb)]
  show R.put (.tuple (.str w :: rest)) lv = _
  unfold PR.put
  rw [if_neg (fun q => q (show hdW (.tuple (.str w :: rest)) ∈ openers from ho)), if_neg (by omega)]
  rfl
theorem takeHead_deep {R : PR} {w : Str} {rest : List PyData} {lv : Nat} (hb : w ∉ binders) (ho : w ∈ openers) (hl : 4 ≤ lv) : R.takeHead (.tuple (.str w :: rest)) lv = none := by
  unfold PR.takeHead PR.bind
  rw [if_neg (show hdW (.tuple (.str w :: rest)) ∉ binders from hb)]
  show R.put (.tuple (.str w :: rest)) lv = _
  unfold PR.put
  rw [if_neg (fun q => q (show hdW (.tuple (.str w :: rest)) ∈ openers from ho)), if_pos hl]
theorem takeHead_bind {R : PR} {w n : Str} {rest : List PyData} {lv : Nat} (hb : w ∈ binders) (ho : w ∉ openers) (hn : n ∉ R.bound) : R.takeHead (.tuple (.str w :: .str n :: rest)) lv = some (({ R with bound := R.bound ++ [n] } : PR).keep (.tuple (.str w :: .str n :: rest))) := by
  unfold PR.takeHead PR.bind
  rw [if_pos (show hdW (.tuple (.str w :: .str n :: rest)) ∈ binders from hb), if_neg (show hdN (.tuple (.str w :: .str n :: rest)) ∉ R.bound from hn)]
  show PR.put _ (.tuple (.str w :: .str n :: rest)) lv = _
  unfold PR.put
  rw [if_pos (show hdW (.tuple (.str w :: .str n :: rest)) ∉ openers from ho)]
  rfl
theorem takeHead_def {R : PR} {n : Str} {rest : List PyData} (hn : n ∉ R.bound) : R.takeHead (.tuple (.str "def" :: .str n :: rest)) 0 = some { R with bound := R.bound ++ [n], frames := ⟨"def", .str n :: rest, none, []⟩ :: R.frames } := by
  unfold PR.takeHead PR.bind
  rw [if_pos (show hdW (.tuple (.str "def" :: .str n :: rest)) ∈ binders by simp [hdW, binders]), if_neg (show hdN (.tuple (.str "def" :: .str n :: rest)) ∉ R.bound from hn)]
  show PR.put _ (.tuple (.str "def" :: .str n :: rest)) 0 = _
  unfold PR.put
  rw [if_neg (fun q => q (show hdW (.tuple (.str "def" :: .str n :: rest)) ∈ openers by simp [hdW, openers])), if_neg (by decide)]
  rfl
theorem takeHead_twice {R : PR} {w n : Str} {rest : List PyData} {lv : Nat} (hb : w ∈ binders) (hn : n ∈ R.bound) : R.takeHead (.tuple (.str w :: .str n :: rest)) lv = none := by
  unfold PR.takeHead PR.bind
  rw [if_pos (show hdW (.tuple (.str w :: .str n :: rest)) ∈ binders from hb), if_pos (show hdN (.tuple (.str w :: .str n :: rest)) ∈ R.bound from hn)]
  rfl
theorem shut0 (R : PR) (h : R.frames = []) (lv : Nat) : R.shut lv = some R := by
  unfold PR.shut
  rw [h]; rfl
theorem shut_le {R : PR} {lv : Nat} (h : R.frames.length ≤ lv) : R.shut lv = some R := by
  unfold PR.shut
  cases e : R.frames.length with
  | zero => rfl
  | succ n =>
    unfold PR.shutN
    rw [if_pos h]
end Sn

/-! ## law_k13: what the parser gives at the drawn lines -/
namespace Sn
open PySem PySem.Spec PyProof.Rows L2 TL
theorem len_dot : ("." : Str).length = 1 := by decide +kernel
theorem len_eqq : (" = \"" : Str).length = 4 := by decide +kernel
theorem len_col : (":" : Str).length = 1 := by decide +kernel
theorem len_is : ("=" : Str).length = 1 := by decide +kernel
theorem len_eq : (" = " : Str).length = 3 := by decide +kernel
theorem ne_emp {a : Str} (h : Wd a) : a ≠ "" := fun e => h.2 (by rw [e]; decide +kernel)
theorem len_par : ("(" : Str).length = 1 := by decide +kernel
theorem len_rpar : (")" : Str).length = 1 := by decide +kernel
theorem len_br : ("[" : Str).length = 1 := by decide +kernel
theorem len_rbr : ("]" : Str).length = 1 := by decide +kernel
theorem len_eeq : (" == \"" : Str).length = 5 := by decide +kernel
theorem len_qc : ("\":" : Str).length = 2 := by decide +kernel
theorem len_inq : (" in \"" : Str).length = 5 := by decide +kernel
theorem tl_ask : tl ("ask" : Str) = [97, 115, 107] := by decide +kernel
theorem tl_there : tl ("there" : Str) = [116, 104, 101, 114, 101] := by decide +kernel
theorem lk_there : tl ("there " : Str) = [116, 104, 101, 114, 101, 32] := by decide +kernel
theorem lk_br : tl ("[" : Str) = [91] := by decide +kernel
/-- a word of the language and a blank: the word that stands there is another one -/
theorem wd_kw {L : List Nat} {i : Nat} {a s : Str} {r w : List Nat} {c : Nat} (h : At L i (tl a ++ r)) (hs : Sg a) (st : Stp r) (e : tl s = w ++ [c]) (hw : ∀ x ∈ w, x ∈ tl sgnS) (hc : c ∉ tl sgnS) (n : tl a ≠ w) : pTake s L i = false := by
  cases q : pTake s L i with
  | false => rfl
  | true =>
    unfold pTake at q
    have q1 := of_decide_eq_true q
    obtain ⟨t, q2⟩ : ∃ t, L.drop i = w ++ (c :: t) := by
      have := List.take_append_drop s.length (L.drop i)
      rw [q1, e, List.append_assoc] at this
      exact ⟨_, this.symm⟩
    have q3 := at_signs h hs st
    unfold pSigns at q3
    rw [q2, takeW (fun x hx => decide_eq_true (hw x hx)) (fun x hx => by cases hx; exact decide_eq_false hc)] at q3
    exact absurd q3.symm n
theorem blank_no : (32 : Nat) ∉ tl sgnS := by decide +kernel
theorem tkB {L : List Nat} {i : Nat} {s a : Str} {l : List Nat} (e : tl s = l) (h : At L i (tl a ++ [])) (hs : Sg a) (hm : 32 ∈ l := by decide) : pTake s L i = false :=
  tkC h (c := 32) (by rw [e]; exact hm) (by rw [List.append_nil]; exact fun q => blank_no (hs _ q))
theorem lt_0 : tl ("use " : Str) = [117, 115, 101, 32] := by decide +kernel
theorem lt_1 : tl ("offer " : Str) = [111, 102, 102, 101, 114, 32] := by decide +kernel
theorem lt_2 : tl ("table " : Str) = [116, 97, 98, 108, 101, 32] := by decide +kernel
theorem lt_3 : tl ("def " : Str) = [100, 101, 102, 32] := by decide +kernel
theorem lt_4 : tl ("entry " : Str) = [101, 110, 116, 114, 121, 32] := by decide +kernel
theorem lt_5 : tl ("." : Str) = [46] := by decide +kernel
theorem lt_6 : tl ("*" : Str) = [42] := by decide +kernel
theorem lt_7 : tl (" as " : Str) = [32, 97, 115, 32] := by decide +kernel
theorem lt_8 : tl ("set " : Str) = [115, 101, 116, 32] := by decide +kernel
theorem lt_9 : tl (" = \"" : Str) = [32, 61, 32, 34] := by decide +kernel
theorem lt_10 : tl ("\"" : Str) = [34] := by decide +kernel
theorem lt_11 : tl (" " : Str) = [32] := by decide +kernel
theorem lt_12 : tl (":" : Str) = [58] := by decide +kernel
theorem lt_13 : tl ("=" : Str) = [61] := by decide +kernel
theorem lt_14 : tl ("let " : Str) = [108, 101, 116, 32] := by decide +kernel
theorem lt_15 : tl (" = " : Str) = [32, 61, 32] := by decide +kernel
theorem lt_16 : tl ("call " : Str) = [99, 97, 108, 108, 32] := by decide +kernel
theorem lt_17 : tl (" + " : Str) = [32, 43, 32] := by decide +kernel
theorem lt_18 : tl ("if " : Str) = [105, 102, 32] := by decide +kernel
theorem lt_19 : tl ("each " : Str) = [101, 97, 99, 104, 32] := by decide +kernel
theorem lt_20 : tl ("return " : Str) = [114, 101, 116, 117, 114, 110, 32] := by decide +kernel
theorem lt_21 : tl ("[" : Str) = [91] := by decide +kernel
theorem lt_22 : tl ("(" : Str) = [40] := by decide +kernel
theorem lt_23 : tl (")" : Str) = [41] := by decide +kernel
theorem lt_24 : tl ("]" : Str) = [93] := by decide +kernel
theorem lt_25 : tl (" == \"" : Str) = [32, 61, 61, 32, 34] := by decide +kernel
theorem lt_26 : tl ("\":" : Str) = [34, 58] := by decide +kernel
theorem lt_27 : tl ("there " : Str) = [116, 104, 101, 114, 101, 32] := by decide +kernel
theorem lt_28 : tl (" in \"" : Str) = [32, 105, 110, 32, 34] := by decide +kernel
theorem lt_29 : tl ("try:" : Str) = [116, 114, 121, 58] := by decide +kernel
theorem fm_entry {a : Str} (wa : Wd a) {L : List Nat} (hL : L = (101 :: 110 :: 116 :: 114 :: 121 :: 32 :: (tl a ++ []))) :
    pWhole pItem L = if isN a = true then some (.tuple [.str "entry", .str a]) else none := by
  have h0 : At L 0 (101 :: 110 :: 116 :: 114 :: 121 :: 32 :: (tl a ++ [])) := hL ▸ At.zero L
  have h1 : At L (0 + 6) (tl a ++ []) := h0.go (a := [101, 110, 116, 114, 121, 32])
  have h2 : At L (0 + 6 + a.length) [] := h1.goS
  have e0 : pTake "use " L (0) = false := tkF lt_0 h0 rfl
  have e1 : pTake "offer " L (0) = false := tkF lt_1 h0 rfl
  have e2 : pTake "table " L (0) = false := tkF lt_2 h0 rfl
  have e3 : pTake "def " L (0) = false := tkF lt_3 h0 rfl
  have e4 : pTake "entry " L (0) = true := tkL lt_4 h0
  have n1 := at_name h1 wa.1 Stp.nil
  have w1 := at_word h1 wa.1 Stp.nil
  have hE : L.length ≤ 0 + 6 + a.length := List.drop_eq_nil_iff.mp h2
  cases hn : isN a <;> simp [pWhole, pItem, pMap, n1, hn, hE, e0, e1, e2, e3, e4]
theorem fm_star {a : Str} (wa : Wd a) {L : List Nat} (hL : L = (117 :: 115 :: 101 :: 32 :: (tl a ++ (46 :: (42 :: []))))) :
    pWhole pItem L = if isN a = true then some (.tuple [.str "star", .str a]) else none := by
  have h0 : At L 0 (117 :: 115 :: 101 :: 32 :: (tl a ++ (46 :: (42 :: [])))) := hL ▸ At.zero L
  have h1 : At L (0 + 4) (tl a ++ (46 :: (42 :: []))) := h0.go (a := [117, 115, 101, 32])
  have h2 : At L (0 + 4 + a.length) (46 :: (42 :: [])) := h1.goS
  have h3 : At L (0 + 4 + a.length + 1) (42 :: []) := h2.go (a := [46])
  have h4 : At L (0 + 4 + a.length + 1 + 1) [] := h3.go (a := [42])
  have e0 : pTake "use " L (0) = true := tkL lt_0 h0
  have e1 : pTake "." L (0 + 4 + a.length) = true := tkL lt_5 h2
  have e2 : pTake "*" L (0 + 4 + a.length + 1) = true := tkL lt_6 h3
  have n1 := at_name h1 wa.1 (Stp.one (by decide +kernel))
  have w1 := at_word h1 wa.1 (Stp.one (by decide +kernel))
  have hE : L.length ≤ 0 + 4 + a.length + 1 + 1 := List.drop_eq_nil_iff.mp h4
  cases hn : isN a <;> simp [pWhole, pItem, pUsed, pBef, len_dot, n1, hn, hE, e0, e1, e2]
theorem fm_useas {a b c : Str} (wa : Wd a) (wb : Wd b) (wc : Wd c) {L : List Nat} (hL : L = (117 :: 115 :: 101 :: 32 :: (tl a ++ (46 :: (tl b ++ (32 :: 97 :: 115 :: 32 :: (tl c ++ []))))))) :
    pWhole pItem L = if (isN a && isN b && isN c && !decide (b = c)) = true then some (.tuple [.str "use", .str c, .str a, .str b]) else none := by
  have h0 : At L 0 (117 :: 115 :: 101 :: 32 :: (tl a ++ (46 :: (tl b ++ (32 :: 97 :: 115 :: 32 :: (tl c ++ [])))))) := hL ▸ At.zero L
  have h1 : At L (0 + 4) (tl a ++ (46 :: (tl b ++ (32 :: 97 :: 115 :: 32 :: (tl c ++ []))))) := h0.go (a := [117, 115, 101, 32])
  have h2 : At L (0 + 4 + a.length) (46 :: (tl b ++ (32 :: 97 :: 115 :: 32 :: (tl c ++ [])))) := h1.goS
  have h3 : At L (0 + 4 + a.length + 1) (tl b ++ (32 :: 97 :: 115 :: 32 :: (tl c ++ []))) := h2.go (a := [46])
  have h4 : At L (0 + 4 + a.length + 1 + b.length) (32 :: 97 :: 115 :: 32 :: (tl c ++ [])) := h3.goS
  have h5 : At L (0 + 4 + a.length + 1 + b.length + 4) (tl c ++ []) := h4.go (a := [32, 97, 115, 32])
  have h6 : At L (0 + 4 + a.length + 1 + b.length + 4 + c.length) [] := h5.goS
  have e0 : pTake "use " L (0) = true := tkL lt_0 h0
  have e1 : pTake "." L (0 + 4 + a.length) = true := tkL lt_5 h2
  have e2 : pTake "*" L (0 + 4 + a.length + 1) = false := wd_noq h3 wb lt_6 (by decide +kernel)
  have e3 : pTake " as " L (0 + 4 + a.length + 1 + b.length) = true := tkL lt_7 h4
  have n1 := at_name h1 wa.1 (Stp.one (by decide +kernel))
  have w1 := at_word h1 wa.1 (Stp.one (by decide +kernel))
  have n3 := at_name h3 wb.1 (Stp.one (by decide +kernel))
  have w3 := at_word h3 wb.1 (Stp.one (by decide +kernel))
  have n5 := at_name h5 wc.1 Stp.nil
  have w5 := at_word h5 wc.1 Stp.nil
  have hE : L.length ≤ 0 + 4 + a.length + 1 + b.length + 4 + c.length := List.drop_eq_nil_iff.mp h6
  by_cases hbc : b = c
  · subst hbc
    cases ha : isN a <;> cases hb : isN b <;> simp [pWhole, pItem, pUsed, pBef, len_dot, n1, n3, n5, ha, hb, hE, e0, e1, e2, e3]
  · have ebc : ¬ c = b := fun h => hbc h.symm
    cases ha : isN a <;> cases hb : isN b <;> cases hc : isN c <;> simp [pWhole, pItem, pUsed, pBef, len_dot, n1, n3, n5, ha, hb, hc, ebc, hbc, hE, e0, e1, e2, e3]
theorem fm_use {a b : Str} (wa : Wd a) (wb : Wd b) {L : List Nat} (hL : L = (117 :: 115 :: 101 :: 32 :: (tl a ++ (46 :: (tl b ++ []))))) :
    pWhole pItem L = if (isN a && isN b) = true then some (.tuple [.str "use", .str b, .str a, .str b]) else none := by
  have h0 : At L 0 (117 :: 115 :: 101 :: 32 :: (tl a ++ (46 :: (tl b ++ [])))) := hL ▸ At.zero L
  have h1 : At L (0 + 4) (tl a ++ (46 :: (tl b ++ []))) := h0.go (a := [117, 115, 101, 32])
  have h2 : At L (0 + 4 + a.length) (46 :: (tl b ++ [])) := h1.goS
  have h3 : At L (0 + 4 + a.length + 1) (tl b ++ []) := h2.go (a := [46])
  have h4 : At L (0 + 4 + a.length + 1 + b.length) [] := h3.goS
  have e0 : pTake "use " L (0) = true := tkL lt_0 h0
  have e1 : pTake "." L (0 + 4 + a.length) = true := tkL lt_5 h2
  have e2 : pTake "*" L (0 + 4 + a.length + 1) = false := wd_noq h3 wb lt_6 (by decide +kernel)
  have e3 : pTake " as " L (0 + 4 + a.length + 1 + b.length) = false := tkF lt_7 h4 rfl
  have n1 := at_name h1 wa.1 (Stp.one (by decide +kernel))
  have w1 := at_word h1 wa.1 (Stp.one (by decide +kernel))
  have n3 := at_name h3 wb.1 Stp.nil
  have w3 := at_word h3 wb.1 Stp.nil
  have hE : L.length ≤ 0 + 4 + a.length + 1 + b.length := List.drop_eq_nil_iff.mp h4
  cases ha : isN a <;> cases hb : isN b <;> simp [pWhole, pItem, pUsed, pBef, len_dot, n1, n3, ha, hb, hE, e0, e1, e2, e3]
theorem fm_set {a b : Str} (wa : Wd a) (wb : Wd b) {L : List Nat} (hL : L = (115 :: 101 :: 116 :: 32 :: (tl a ++ (32 :: 61 :: 32 :: 34 :: (tl b ++ (34 :: [])))))) :
    pWhole pItem L = if (isN a && decide (b.length ≤ 8)) = true then some (.tuple [.str "set", .str a, .str b]) else none := by
  have h0 : At L 0 (115 :: 101 :: 116 :: 32 :: (tl a ++ (32 :: 61 :: 32 :: 34 :: (tl b ++ (34 :: []))))) := hL ▸ At.zero L
  have h1 : At L (0 + 4) (tl a ++ (32 :: 61 :: 32 :: 34 :: (tl b ++ (34 :: [])))) := h0.go (a := [115, 101, 116, 32])
  have h2 : At L (0 + 4 + a.length) (32 :: 61 :: 32 :: 34 :: (tl b ++ (34 :: []))) := h1.goS
  have h3 : At L (0 + 4 + a.length + 4) (tl b ++ (34 :: [])) := h2.go (a := [32, 61, 32, 34])
  have h4 : At L (0 + 4 + a.length + 4 + b.length) (34 :: []) := h3.goS
  have h5 : At L (0 + 4 + a.length + 4 + b.length + 1) [] := h4.go (a := [34])
  have e0 : pTake "use " L (0) = false := tkF lt_0 h0 rfl
  have e1 : pTake "offer " L (0) = false := tkF lt_1 h0 rfl
  have e2 : pTake "table " L (0) = false := tkF lt_2 h0 rfl
  have e3 : pTake "def " L (0) = false := tkF lt_3 h0 rfl
  have e4 : pTake "entry " L (0) = false := tkF lt_4 h0 rfl
  have e5 : pTake "set " L (0) = true := tkL lt_8 h0
  have e6 : pTake " = \"" L (0 + 4 + a.length) = true := tkL lt_9 h2
  have e7 : pTake "\"" L (0 + 4 + a.length + 4 + b.length) = true := tkL lt_10 h4
  have n1 := at_name h1 wa.1 (Stp.one (by decide +kernel))
  have w1 := at_word h1 wa.1 (Stp.one (by decide +kernel))
  have n3 := at_name h3 wb.1 (Stp.one (by decide +kernel))
  have w3 := at_word h3 wb.1 (Stp.one (by decide +kernel))
  have hE : L.length ≤ 0 + 4 + a.length + 4 + b.length + 1 := List.drop_eq_nil_iff.mp h5
  cases ha : isN a <;> by_cases hb : b.length ≤ 8 <;> simp [pWhole, pItem, pQuoted, pMap, pAft, pBef, len_eqq, one_q, n1, w3, ha, hb, hE, e0, e1, e2, e3, e4, e5, e6, e7]
theorem fm_offer {a b : Str} (wa : Wd a) (wb : Wd b) (ab : a ≠ b) {L : List Nat} (hL : L = (111 :: 102 :: 102 :: 101 :: 114 :: 32 :: (tl a ++ (32 :: (tl b ++ []))))) :
    pWhole pItem L = if (isN a && isN b) = true then some (.tuple [.str "offer", .tuple [.str a, .str b]]) else none := by
  have h0 : At L 0 (111 :: 102 :: 102 :: 101 :: 114 :: 32 :: (tl a ++ (32 :: (tl b ++ [])))) := hL ▸ At.zero L
  have h1 : At L (0 + 6) (tl a ++ (32 :: (tl b ++ []))) := h0.go (a := [111, 102, 102, 101, 114, 32])
  have h2 : At L (0 + 6 + a.length) (32 :: (tl b ++ [])) := h1.goS
  have h3 : At L (0 + 6 + a.length + 1) (tl b ++ []) := h2.go (a := [32])
  have h4 : At L (0 + 6 + a.length + 1 + b.length) [] := h3.goS
  have e0 : pTake "use " L (0) = false := tkF lt_0 h0 rfl
  have e1 : pTake "offer " L (0) = true := tkL lt_1 h0
  have e2 : pTake " " L (0 + 6 + a.length) = true := tkL lt_11 h2
  have e3 : pTake " " L (0 + 6 + a.length + 1 + b.length) = false := tkF lt_11 h4 rfl
  have n1 := at_name h1 wa.1 (Stp.one (by decide +kernel))
  have w1 := at_word h1 wa.1 (Stp.one (by decide +kernel))
  have n3 := at_name h3 wb.1 Stp.nil
  have w3 := at_word h3 wb.1 Stp.nil
  have hE : L.length ≤ 0 + 6 + a.length + 1 + b.length := List.drop_eq_nil_iff.mp h4
  obtain ⟨g, hg⟩ : ∃ g, L.length = g + 1 := ⟨L.length - 1, by have := h0.pos; omega⟩
  cases ha : isN a <;> cases hb : isN b <;> simp [pWhole, pItem, pOffered, hg, pNames, n1, n3, ha, hb, ab, e0, e1, e2, e3]
  all_goals omega
theorem fm_table {a b c : Str} (wa : Wd a) (wb : Wd b) (wc : Wd c) (bc : b ≠ c) {L : List Nat} (hL : L = (116 :: 97 :: 98 :: 108 :: 101 :: 32 :: (tl a ++ (58 :: (32 :: (tl b ++ (61 :: (tl a ++ (32 :: (tl c ++ (61 :: (tl a ++ [])))))))))))) :
    pWhole pItem L = if (isN a && decide (b.length ≤ 8) && decide (c.length ≤ 8)) = true then some (.tuple [.str "table", .str a, .tuple [.tuple [.str b, .str a], .tuple [.str c, .str a]]]) else none := by
  have h0 : At L 0 (116 :: 97 :: 98 :: 108 :: 101 :: 32 :: (tl a ++ (58 :: (32 :: (tl b ++ (61 :: (tl a ++ (32 :: (tl c ++ (61 :: (tl a ++ []))))))))))) := hL ▸ At.zero L
  have h1 : At L (0 + 6) (tl a ++ (58 :: (32 :: (tl b ++ (61 :: (tl a ++ (32 :: (tl c ++ (61 :: (tl a ++ [])))))))))) := h0.go (a := [116, 97, 98, 108, 101, 32])
  have h2 : At L (0 + 6 + a.length) (58 :: (32 :: (tl b ++ (61 :: (tl a ++ (32 :: (tl c ++ (61 :: (tl a ++ []))))))))) := h1.goS
  have h3 : At L (0 + 6 + a.length + 1) (32 :: (tl b ++ (61 :: (tl a ++ (32 :: (tl c ++ (61 :: (tl a ++ [])))))))) := h2.go (a := [58])
  have h4 : At L (0 + 6 + a.length + 1 + 1) (tl b ++ (61 :: (tl a ++ (32 :: (tl c ++ (61 :: (tl a ++ []))))))) := h3.go (a := [32])
  have h5 : At L (0 + 6 + a.length + 1 + 1 + b.length) (61 :: (tl a ++ (32 :: (tl c ++ (61 :: (tl a ++ [])))))) := h4.goS
  have h6 : At L (0 + 6 + a.length + 1 + 1 + b.length + 1) (tl a ++ (32 :: (tl c ++ (61 :: (tl a ++ []))))) := h5.go (a := [61])
  have h7 : At L (0 + 6 + a.length + 1 + 1 + b.length + 1 + a.length) (32 :: (tl c ++ (61 :: (tl a ++ [])))) := h6.goS
  have h8 : At L (0 + 6 + a.length + 1 + 1 + b.length + 1 + a.length + 1) (tl c ++ (61 :: (tl a ++ []))) := h7.go (a := [32])
  have h9 : At L (0 + 6 + a.length + 1 + 1 + b.length + 1 + a.length + 1 + c.length) (61 :: (tl a ++ [])) := h8.goS
  have h10 : At L (0 + 6 + a.length + 1 + 1 + b.length + 1 + a.length + 1 + c.length + 1) (tl a ++ []) := h9.go (a := [61])
  have h11 : At L (0 + 6 + a.length + 1 + 1 + b.length + 1 + a.length + 1 + c.length + 1 + a.length) [] := h10.goS
  have e0 : pTake "use " L (0) = false := tkF lt_0 h0 rfl
  have e1 : pTake "offer " L (0) = false := tkF lt_1 h0 rfl
  have e2 : pTake "table " L (0) = true := tkL lt_2 h0
  have e3 : pTake ":" L (0 + 6 + a.length) = true := tkL lt_12 h2
  have e4 : pTake " " L (0 + 6 + a.length + 1) = true := tkL lt_11 h3
  have e5 : pTake "=" L (0 + 6 + a.length + 1 + 1 + b.length) = true := tkL lt_13 h5
  have e6 : pTake " " L (0 + 6 + a.length + 1 + 1 + b.length + 1 + a.length) = true := tkL lt_11 h7
  have e7 : pTake "=" L (0 + 6 + a.length + 1 + 1 + b.length + 1 + a.length + 1 + c.length) = true := tkL lt_13 h9
  have e8 : pTake " " L (0 + 6 + a.length + 1 + 1 + b.length + 1 + a.length + 1 + c.length + 1 + a.length) = false := tkF lt_11 h11 rfl
  have n1 := at_name h1 wa.1 (Stp.one (by decide +kernel))
  have w1 := at_word h1 wa.1 (Stp.one (by decide +kernel))
  have n4 := at_name h4 wb.1 (Stp.one (by decide +kernel))
  have w4 := at_word h4 wb.1 (Stp.one (by decide +kernel))
  have n6 := at_name h6 wa.1 (Stp.one (by decide +kernel))
  have w6 := at_word h6 wa.1 (Stp.one (by decide +kernel))
  have n8 := at_name h8 wc.1 (Stp.one (by decide +kernel))
  have w8 := at_word h8 wc.1 (Stp.one (by decide +kernel))
  have n10 := at_name h10 wa.1 Stp.nil
  have w10 := at_word h10 wa.1 Stp.nil
  have hE : L.length ≤ 0 + 6 + a.length + 1 + 1 + b.length + 1 + a.length + 1 + c.length + 1 + a.length := List.drop_eq_nil_iff.mp h11
  obtain ⟨g, hg⟩ : ∃ g, L.length = g + 2 := ⟨L.length - 2, by have := h2.pos; omega⟩
  have nb := ne_emp wb
  have nc := ne_emp wc
  cases ha : isN a <;> by_cases hb : b.length ≤ 8 <;> by_cases hc : c.length ≤ 8 <;> simp [pWhole, pItem, pKeyed, pBef, hg, pPairs, len_col, len_is, n1, w4, n6, w8, n10, ha, hb, hc, nb, nc, bc, e0, e1, e2, e3, e4, e5, e6, e7, e8]
  all_goals omega
theorem fm_let {a b : Str} (wa : Wd a) (wb : Wd b) {L : List Nat} (hL : L = (108 :: 101 :: 116 :: 32 :: (tl a ++ (32 :: 61 :: 32 :: (tl b ++ []))))) :
    pWhole pStmt L = if isN a = true ∧ b = "ask" then some (.tuple [.str "ask", .str a]) else if isN a = true ∧ isN b = true then some (.tuple [.str "let", .str a, .tuple [.tuple [.str "name", .str b]]]) else none := by
  have h0 : At L 0 (108 :: 101 :: 116 :: 32 :: (tl a ++ (32 :: 61 :: 32 :: (tl b ++ [])))) := hL ▸ At.zero L
  have h1 : At L (0 + 4) (tl a ++ (32 :: 61 :: 32 :: (tl b ++ []))) := h0.go (a := [108, 101, 116, 32])
  have h2 : At L (0 + 4 + a.length) (32 :: 61 :: 32 :: (tl b ++ [])) := h1.goS
  have h3 : At L (0 + 4 + a.length + 3) (tl b ++ []) := h2.go (a := [32, 61, 32])
  have h4 : At L (0 + 4 + a.length + 3 + b.length) [] := h3.goS
  have e0 : pTake "let " L (0) = true := tkL lt_14 h0
  have e1 : pTake " = " L (0 + 4 + a.length) = true := tkL lt_15 h2
  have e2 : pTake "call " L (0 + 4 + a.length + 3) = false := tkB lt_16 h3 wb.1
  have e3 : pTake " + " L (0 + 4 + a.length + 3 + b.length) = false := tkF lt_17 h4 rfl
  have n1 := at_name h1 wa.1 (Stp.one (by decide +kernel))
  have w1 := at_word h1 wa.1 (Stp.one (by decide +kernel))
  have n3 := at_name h3 wb.1 Stp.nil
  have w3 := at_word h3 wb.1 Stp.nil
  have hE : L.length ≤ 0 + 4 + a.length + 3 + b.length := List.drop_eq_nil_iff.mp h4
  have p3 := part_name h3 wb Stp.nil
  by_cases hk : b = "ask"
  · subst hk
    have hd : L.drop (0 + 4 + a.length + 3) = tl ("ask" : Str) := by rw [show L.drop _ = _ from h3, List.append_nil]
    have l3 : ("ask" : Str).length = 3 := by decide +kernel
    rw [l3] at hE
    cases ha : isN a <;> simp [pWhole, pStmt, pLet, pBef, len_eq, n1, ha, hd, hE, e0, e1, e2, e3]
    all_goals omega
  · have hd : L.drop (0 + 4 + a.length + 3) ≠ tl ("ask" : Str) := by rw [show L.drop _ = _ from h3, List.append_nil]; exact fun q => hk (ext_tl q)
    cases ha : isN a
    · simp [pWhole, pStmt, pLet, pBef, len_eq, n1, ha, e0, e1, e2, e3]
    cases hb : isN b
    · rw [hb, if_neg (by decide)] at p3
      have x3 := expr_none p3
      simp [pWhole, pStmt, pLet, pBef, pMap, len_eq, n1, ha, hd, hk, x3, e0, e1, e2, e3]
    · rw [hb, if_pos rfl] at p3
      have x3 := expr_one p3 e3
      simp [pWhole, pStmt, pLet, pBef, pMap, len_eq, n1, ha, hd, hk, x3, hE, e0, e1, e2, e3]
theorem fm_return {a b : Str} (wa : Wd a) (wb : Wd b) {L : List Nat} (hL : L = (114 :: 101 :: 116 :: 117 :: 114 :: 110 :: 32 :: (tl a ++ (32 :: 43 :: 32 :: (34 :: (tl b ++ (34 :: []))))))) :
    pWhole pStmt L = if (isN a && decide (b.length ≤ 8)) = true then some (.tuple [.str "return", .tuple [.tuple [.str "name", .str a], .tuple [.str "text", .str b]]]) else none := by
  have h0 : At L 0 (114 :: 101 :: 116 :: 117 :: 114 :: 110 :: 32 :: (tl a ++ (32 :: 43 :: 32 :: (34 :: (tl b ++ (34 :: [])))))) := hL ▸ At.zero L
  have h1 : At L (0 + 7) (tl a ++ (32 :: 43 :: 32 :: (34 :: (tl b ++ (34 :: []))))) := h0.go (a := [114, 101, 116, 117, 114, 110, 32])
  have h2 : At L (0 + 7 + a.length) (32 :: 43 :: 32 :: (34 :: (tl b ++ (34 :: [])))) := h1.goS
  have h3 : At L (0 + 7 + a.length + 3) (34 :: (tl b ++ (34 :: []))) := h2.go (a := [32, 43, 32])
  have h4 : At L (0 + 7 + a.length + 3 + 1) (tl b ++ (34 :: [])) := h3.go (a := [34])
  have h5 : At L (0 + 7 + a.length + 3 + 1 + b.length) (34 :: []) := h4.goS
  have h6 : At L (0 + 7 + a.length + 3 + 1 + b.length + 1) [] := h5.go (a := [34])
  have e0 : pTake "let " L (0) = false := tkF lt_14 h0 rfl
  have e1 : pTake "call " L (0) = false := tkF lt_16 h0 rfl
  have e2 : pTake "if " L (0) = false := tkF lt_18 h0 rfl
  have e3 : pTake "each " L (0) = false := tkF lt_19 h0 rfl
  have e4 : pTake "return " L (0) = true := tkL lt_20 h0
  have e5 : pTake " + " L (0 + 7 + a.length) = true := tkL lt_17 h2
  have e6 : pTake " + " L (0 + 7 + a.length + 3 + 1 + b.length + 1) = false := tkF lt_17 h6 rfl
  have n1 := at_name h1 wa.1 (Stp.one (by decide +kernel))
  have w1 := at_word h1 wa.1 (Stp.one (by decide +kernel))
  have n4 := at_name h4 wb.1 (Stp.one (by decide +kernel))
  have w4 := at_word h4 wb.1 (Stp.one (by decide +kernel))
  have hE : L.length ≤ 0 + 7 + a.length + 3 + 1 + b.length + 1 := List.drop_eq_nil_iff.mp h6
  have hp : 0 < L.length := h0.pos
  have pa := part_name h1 wa (Stp.one (by decide +kernel))
  have pb := part_text h3 wb.1
  cases ha : isN a
  · rw [ha, if_neg (by decide)] at pa
    have x := expr_none pa
    simp [pWhole, pStmt, pMap, x, hE, e0, e1, e2, e3, e4, e5, e6]
  · rw [ha, if_pos rfl] at pa
    by_cases hb : b.length ≤ 8
    · rw [if_pos hb] at pb
      have x := expr_two hp pa e5 pb e6
      simp [pWhole, pStmt, pMap, x, hb, hE, e0, e1, e2, e3, e4, e5, e6]
    · rw [if_neg hb] at pb
      have x := expr_two_none hp pa e5 pb
      simp [pWhole, pStmt, pMap, x, hb, hE, e0, e1, e2, e3, e4, e5, e6]
theorem fm_call {a b : Str} (wa : Wd a) (wb : Wd b) {L : List Nat} (hL : L = (99 :: 97 :: 108 :: 108 :: 32 :: (tl a ++ (40 :: (tl b ++ (41 :: [])))))) :
    pWhole pStmt L = if (isN a && isN b) = true then some (.tuple [.str "call", .none, .tuple [.str "name", .str a], .tuple [.tuple [.tuple [.str "name", .str b]]]]) else none := by
  have h0 : At L 0 (99 :: 97 :: 108 :: 108 :: 32 :: (tl a ++ (40 :: (tl b ++ (41 :: []))))) := hL ▸ At.zero L
  have h1 : At L (0 + 5) (tl a ++ (40 :: (tl b ++ (41 :: [])))) := h0.go (a := [99, 97, 108, 108, 32])
  have h2 : At L (0 + 5 + a.length) (40 :: (tl b ++ (41 :: []))) := h1.goS
  have h3 : At L (0 + 5 + a.length + 1) (tl b ++ (41 :: [])) := h2.go (a := [40])
  have h4 : At L (0 + 5 + a.length + 1 + b.length) (41 :: []) := h3.goS
  have h5 : At L (0 + 5 + a.length + 1 + b.length + 1) [] := h4.go (a := [41])
  have e0 : pTake "let " L (0) = false := tkF lt_14 h0 rfl
  have e1 : pTake "call " L (0) = true := tkL lt_16 h0
  have e2 : pTake "[" L (0 + 5) = false := wd_noq h1 wa lt_21 (by decide +kernel)
  have e3 : pTake "[" L (0 + 5 + a.length) = false := tkF lt_21 h2 rfl
  have e4 : pTake "(" L (0 + 5 + a.length) = true := tkL lt_22 h2
  have e5 : pTake ")" L (0 + 5 + a.length + 1) = false := wd_noq h3 wb lt_23 (by decide +kernel)
  have e6 : pTake " + " L (0 + 5 + a.length + 1 + b.length) = false := tkF lt_17 h4 rfl
  have e7 : pTake ")" L (0 + 5 + a.length + 1 + b.length) = true := tkL lt_23 h4
  have n1 := at_name h1 wa.1 (Stp.one (by decide +kernel))
  have w1 := at_word h1 wa.1 (Stp.one (by decide +kernel))
  have n3 := at_name h3 wb.1 (Stp.one (by decide +kernel))
  have w3 := at_word h3 wb.1 (Stp.one (by decide +kernel))
  have hE : L.length ≤ 0 + 5 + a.length + 1 + b.length + 1 := List.drop_eq_nil_iff.mp h5
  obtain ⟨g, hg⟩ : ∃ g, L.length = g + 1 := ⟨L.length - 1, by have := h0.pos; omega⟩
  have pb := part_name h3 wb (Stp.one (by decide +kernel))
  cases ha : isN a
  · simp [pWhole, pStmt, pCall, pTarget, n1, ha, e0, e1, e2, e3, e4, e5, e6, e7]
  cases hb : isN b
  · rw [hb, if_neg (by decide)] at pb
    have x := expr_none pb
    simp [pWhole, pStmt, pCall, pTarget, pAft, pListed, pList, hg, len_par, n1, ha, x, e0, e1, e2, e3, e4, e5, e6, e7]
  · rw [hb, if_pos rfl] at pb
    have x := expr_one pb e6
    simp [pWhole, pStmt, pCall, pTarget, pAft, pListed, pList, hg, len_par, len_rpar, n1, ha, x, e0, e1, e2, e3, e4, e5, e6, e7]
    omega
theorem fm_letcall {a b c : Str} (wa : Wd a) (wb : Wd b) (wc : Wd c) {L : List Nat} (hL : L = (108 :: 101 :: 116 :: 32 :: (tl a ++ (32 :: 61 :: 32 :: (99 :: 97 :: 108 :: 108 :: 32 :: (tl b ++ (91 :: (tl c ++ (93 :: (40 :: (41 :: []))))))))))) :
    pWhole pStmt L = if (isN a && isN b && isN c) = true then some (.tuple [.str "call", .str a, .tuple [.str "table", .str b, .tuple [.tuple [.str "name", .str c]]], .tuple []]) else none := by
  have h0 : At L 0 (108 :: 101 :: 116 :: 32 :: (tl a ++ (32 :: 61 :: 32 :: (99 :: 97 :: 108 :: 108 :: 32 :: (tl b ++ (91 :: (tl c ++ (93 :: (40 :: (41 :: [])))))))))) := hL ▸ At.zero L
  have h1 : At L (0 + 4) (tl a ++ (32 :: 61 :: 32 :: (99 :: 97 :: 108 :: 108 :: 32 :: (tl b ++ (91 :: (tl c ++ (93 :: (40 :: (41 :: []))))))))) := h0.go (a := [108, 101, 116, 32])
  have h2 : At L (0 + 4 + a.length) (32 :: 61 :: 32 :: (99 :: 97 :: 108 :: 108 :: 32 :: (tl b ++ (91 :: (tl c ++ (93 :: (40 :: (41 :: [])))))))) := h1.goS
  have h3 : At L (0 + 4 + a.length + 3) (99 :: 97 :: 108 :: 108 :: 32 :: (tl b ++ (91 :: (tl c ++ (93 :: (40 :: (41 :: []))))))) := h2.go (a := [32, 61, 32])
  have h4 : At L (0 + 4 + a.length + 3 + 5) (tl b ++ (91 :: (tl c ++ (93 :: (40 :: (41 :: [])))))) := h3.go (a := [99, 97, 108, 108, 32])
  have h5 : At L (0 + 4 + a.length + 3 + 5 + b.length) (91 :: (tl c ++ (93 :: (40 :: (41 :: []))))) := h4.goS
  have h6 : At L (0 + 4 + a.length + 3 + 5 + b.length + 1) (tl c ++ (93 :: (40 :: (41 :: [])))) := h5.go (a := [91])
  have h7 : At L (0 + 4 + a.length + 3 + 5 + b.length + 1 + c.length) (93 :: (40 :: (41 :: []))) := h6.goS
  have h8 : At L (0 + 4 + a.length + 3 + 5 + b.length + 1 + c.length + 1) (40 :: (41 :: [])) := h7.go (a := [93])
  have h9 : At L (0 + 4 + a.length + 3 + 5 + b.length + 1 + c.length + 1 + 1) (41 :: []) := h8.go (a := [40])
  have h10 : At L (0 + 4 + a.length + 3 + 5 + b.length + 1 + c.length + 1 + 1 + 1) [] := h9.go (a := [41])
  have e0 : pTake "let " L (0) = true := tkL lt_14 h0
  have e1 : pTake " = " L (0 + 4 + a.length) = true := tkL lt_15 h2
  have e2 : pTake "call " L (0 + 4 + a.length + 3) = true := tkL lt_16 h3
  have e3 : pTake "[" L (0 + 4 + a.length + 3 + 5) = false := wd_noq h4 wb lt_21 (by decide +kernel)
  have e4 : pTake "[" L (0 + 4 + a.length + 3 + 5 + b.length) = true := tkL lt_21 h5
  have e5 : pTake " + " L (0 + 4 + a.length + 3 + 5 + b.length + 1 + c.length) = false := tkF lt_17 h7 rfl
  have e6 : pTake "]" L (0 + 4 + a.length + 3 + 5 + b.length + 1 + c.length) = true := tkL lt_24 h7
  have e7 : pTake "(" L (0 + 4 + a.length + 3 + 5 + b.length + 1 + c.length + 1) = true := tkL lt_22 h8
  have e8 : pTake ")" L (0 + 4 + a.length + 3 + 5 + b.length + 1 + c.length + 1 + 1) = true := tkL lt_23 h9
  have n1 := at_name h1 wa.1 (Stp.one (by decide +kernel))
  have w1 := at_word h1 wa.1 (Stp.one (by decide +kernel))
  have n4 := at_name h4 wb.1 (Stp.one (by decide +kernel))
  have w4 := at_word h4 wb.1 (Stp.one (by decide +kernel))
  have n6 := at_name h6 wc.1 (Stp.one (by decide +kernel))
  have w6 := at_word h6 wc.1 (Stp.one (by decide +kernel))
  have hE : L.length ≤ 0 + 4 + a.length + 3 + 5 + b.length + 1 + c.length + 1 + 1 + 1 := List.drop_eq_nil_iff.mp h10
  have pc := part_name h6 wc (Stp.one (by decide +kernel))
  have hd : L.drop (0 + 4 + a.length + 3) ≠ tl ("ask" : Str) := by rw [show L.drop _ = _ from h3, tl_ask]; exact fun q => nomatch q
  cases ha : isN a
  · simp [pWhole, pStmt, pLet, pBef, len_eq, n1, ha, e0, e1, e2, e3, e4, e5, e6, e7, e8]
  cases hb : isN b
  · simp [pWhole, pStmt, pLet, pBef, pCall, pTarget, len_eq, n1, n4, ha, hb, hd, e0, e1, e2, e3, e4, e5, e6, e7, e8]
  cases hc : isN c
  · rw [hc, if_neg (by decide)] at pc
    have x := expr_none pc
    simp [pWhole, pStmt, pLet, pBef, pAft, pMap, pCall, pTarget, pBuilt, len_eq, len_br, n1, n4, ha, hb, hd, x, e0, e1, e2, e3, e4, e5, e6, e7, e8]
  · rw [hc, if_pos rfl] at pc
    have x := expr_one pc e5
    simp [pWhole, pStmt, pLet, pBef, pAft, pMap, pCall, pTarget, pBuilt, pListed, pList, len_eq, len_br, len_rbr, len_par, len_rpar, n1, n4, ha, hb, hd, x, hE, e0, e1, e2, e3, e4, e5, e6, e7, e8]
theorem fm_built {a b : Str} (wa : Wd a) (wb : Wd b) {L : List Nat} (hL : L = (99 :: 97 :: 108 :: 108 :: 32 :: (91 :: (tl a ++ (32 :: 43 :: 32 :: (34 :: (tl b ++ (34 :: (93 :: (40 :: (41 :: []))))))))))) :
    pWhole pStmt L = if (isN a && decide (b.length ≤ 8)) = true then some (.tuple [.str "call", .none, .tuple [.str "built", .tuple [.tuple [.str "name", .str a], .tuple [.str "text", .str b]]], .tuple []]) else none := by
  have h0 : At L 0 (99 :: 97 :: 108 :: 108 :: 32 :: (91 :: (tl a ++ (32 :: 43 :: 32 :: (34 :: (tl b ++ (34 :: (93 :: (40 :: (41 :: [])))))))))) := hL ▸ At.zero L
  have h1 : At L (0 + 5) (91 :: (tl a ++ (32 :: 43 :: 32 :: (34 :: (tl b ++ (34 :: (93 :: (40 :: (41 :: []))))))))) := h0.go (a := [99, 97, 108, 108, 32])
  have h2 : At L (0 + 5 + 1) (tl a ++ (32 :: 43 :: 32 :: (34 :: (tl b ++ (34 :: (93 :: (40 :: (41 :: [])))))))) := h1.go (a := [91])
  have h3 : At L (0 + 5 + 1 + a.length) (32 :: 43 :: 32 :: (34 :: (tl b ++ (34 :: (93 :: (40 :: (41 :: []))))))) := h2.goS
  have h4 : At L (0 + 5 + 1 + a.length + 3) (34 :: (tl b ++ (34 :: (93 :: (40 :: (41 :: [])))))) := h3.go (a := [32, 43, 32])
  have h5 : At L (0 + 5 + 1 + a.length + 3 + 1) (tl b ++ (34 :: (93 :: (40 :: (41 :: []))))) := h4.go (a := [34])
  have h6 : At L (0 + 5 + 1 + a.length + 3 + 1 + b.length) (34 :: (93 :: (40 :: (41 :: [])))) := h5.goS
  have h7 : At L (0 + 5 + 1 + a.length + 3 + 1 + b.length + 1) (93 :: (40 :: (41 :: []))) := h6.go (a := [34])
  have h8 : At L (0 + 5 + 1 + a.length + 3 + 1 + b.length + 1 + 1) (40 :: (41 :: [])) := h7.go (a := [93])
  have h9 : At L (0 + 5 + 1 + a.length + 3 + 1 + b.length + 1 + 1 + 1) (41 :: []) := h8.go (a := [40])
  have h10 : At L (0 + 5 + 1 + a.length + 3 + 1 + b.length + 1 + 1 + 1 + 1) [] := h9.go (a := [41])
  have e0 : pTake "let " L (0) = false := tkF lt_14 h0 rfl
  have e1 : pTake "call " L (0) = true := tkL lt_16 h0
  have e2 : pTake "[" L (0 + 5) = true := tkL lt_21 h1
  have e3 : pTake " + " L (0 + 5 + 1 + a.length) = true := tkL lt_17 h3
  have e4 : pTake " + " L (0 + 5 + 1 + a.length + 3 + 1 + b.length + 1) = false := tkF lt_17 h7 rfl
  have e5 : pTake "]" L (0 + 5 + 1 + a.length + 3 + 1 + b.length + 1) = true := tkL lt_24 h7
  have e6 : pTake "(" L (0 + 5 + 1 + a.length + 3 + 1 + b.length + 1 + 1) = true := tkL lt_22 h8
  have e7 : pTake ")" L (0 + 5 + 1 + a.length + 3 + 1 + b.length + 1 + 1 + 1) = true := tkL lt_23 h9
  have n2 := at_name h2 wa.1 (Stp.one (by decide +kernel))
  have w2 := at_word h2 wa.1 (Stp.one (by decide +kernel))
  have n5 := at_name h5 wb.1 (Stp.one (by decide +kernel))
  have w5 := at_word h5 wb.1 (Stp.one (by decide +kernel))
  have hE : L.length ≤ 0 + 5 + 1 + a.length + 3 + 1 + b.length + 1 + 1 + 1 + 1 := List.drop_eq_nil_iff.mp h10
  have hp : 0 < L.length := h0.pos
  have pa := part_name h2 wa (Stp.one (by decide +kernel))
  have pb := part_text h4 wb.1
  cases ha : isN a
  · rw [ha, if_neg (by decide)] at pa
    have x := expr_none pa
    simp [pWhole, pStmt, pCall, pTarget, pBuilt, pBef, pAft, pMap, pListed, pList, len_br, len_rbr, len_par, len_rpar, x, hE, e0, e1, e2, e3, e4, e5, e6, e7]
  · rw [ha, if_pos rfl] at pa
    by_cases hb : b.length ≤ 8
    · rw [if_pos hb] at pb
      have x := expr_two hp pa e3 pb e4
      simp [pWhole, pStmt, pCall, pTarget, pBuilt, pBef, pAft, pMap, pListed, pList, len_br, len_rbr, len_par, len_rpar, x, hb, hE, e0, e1, e2, e3, e4, e5, e6, e7]
    · rw [if_neg hb] at pb
      have x := expr_two_none hp pa e3 pb
      simp [pWhole, pStmt, pCall, pTarget, pBuilt, pBef, pAft, pMap, pListed, pList, len_br, len_rbr, len_par, len_rpar, x, hb, hE, e0, e1, e2, e3, e4, e5, e6, e7]
theorem fm_if {a b : Str} (wa : Wd a) (wb : Wd b) {L : List Nat} (hL : L = (105 :: 102 :: 32 :: (tl a ++ (32 :: 61 :: 61 :: 32 :: 34 :: (tl b ++ (34 :: 58 :: [])))))) :
    pWhole pStmt L = if (isN a && decide (b.length ≤ 8)) = true then some (.tuple [.str "if", .tuple [.tuple [.str "name", .str a]], .str b]) else none := by
  have h0 : At L 0 (105 :: 102 :: 32 :: (tl a ++ (32 :: 61 :: 61 :: 32 :: 34 :: (tl b ++ (34 :: 58 :: []))))) := hL ▸ At.zero L
  have h1 : At L (0 + 3) (tl a ++ (32 :: 61 :: 61 :: 32 :: 34 :: (tl b ++ (34 :: 58 :: [])))) := h0.go (a := [105, 102, 32])
  have h2 : At L (0 + 3 + a.length) (32 :: 61 :: 61 :: 32 :: 34 :: (tl b ++ (34 :: 58 :: []))) := h1.goS
  have h3 : At L (0 + 3 + a.length + 5) (tl b ++ (34 :: 58 :: [])) := h2.go (a := [32, 61, 61, 32, 34])
  have h4 : At L (0 + 3 + a.length + 5 + b.length) (34 :: 58 :: []) := h3.goS
  have h5 : At L (0 + 3 + a.length + 5 + b.length + 2) [] := h4.go (a := [34, 58])
  have e0 : pTake "let " L (0) = false := tkF lt_14 h0 rfl
  have e1 : pTake "call " L (0) = false := tkF lt_16 h0 rfl
  have e2 : pTake "if " L (0) = true := tkL lt_18 h0
  have e3 : pTake " + " L (0 + 3 + a.length) = false := tkF lt_17 h2 rfl
  have e4 : pTake " == \"" L (0 + 3 + a.length) = true := tkL lt_25 h2
  have e5 : pTake "\":" L (0 + 3 + a.length + 5 + b.length) = true := tkL lt_26 h4
  have n1 := at_name h1 wa.1 (Stp.one (by decide +kernel))
  have w1 := at_word h1 wa.1 (Stp.one (by decide +kernel))
  have n3 := at_name h3 wb.1 (Stp.one (by decide +kernel))
  have w3 := at_word h3 wb.1 (Stp.one (by decide +kernel))
  have hE : L.length ≤ 0 + 3 + a.length + 5 + b.length + 2 := List.drop_eq_nil_iff.mp h5
  have pa := part_name h1 wa (Stp.one (by decide +kernel))
  by_cases ht : a = "there"
  · have hk : pTake "there " L (0 + 3) = true := by
      have : At L (0 + 3) ([116, 104, 101, 114, 101, 32] ++ (61 :: 61 :: 32 :: 34 :: (tl b ++ (34 :: 58 :: [])))) := by have h := h1; rw [ht, tl_there] at h; exact h
      exact tkL lk_there this
    have hbr : pTake "[" L (0 + 3 + 6) = false := by
      have : At L (0 + 3) ([116, 104, 101, 114, 101, 32] ++ (61 :: 61 :: 32 :: 34 :: (tl b ++ (34 :: 58 :: [])))) := by have h := h1; rw [ht, tl_there] at h; exact h
      exact tkF lk_br this.go rfl
    have hn : isN a = false := by rw [ht]; decide +kernel
    simp [pWhole, pStmt, pChoice, pBuilt, pBef, pAft, pMap, hk, hbr, hn, e0, e1, e2, e3, e4, e5]
  · have hk : pTake "there " L (0 + 3) = false := wd_kw h1 wa.1 (Stp.one (by decide +kernel)) (w := [116, 104, 101, 114, 101]) (c := 32) lk_there (by decide +kernel) blank_no fun e => ht (ext_tl (by rw [e, tl_there]))
    cases ha : isN a
    · rw [ha, if_neg (by decide)] at pa
      have x := expr_none pa
      simp [pWhole, pStmt, pChoice, hk, x, e0, e1, e2, e3, e4, e5]
    · rw [ha, if_pos rfl] at pa
      have x := expr_one pa e3
      by_cases hb : b.length ≤ 8 <;> simp [pWhole, pStmt, pChoice, pQuoted, pBef, pAft, pMap, len_eeq, len_qc, w3, hk, x, hb, hE, e0, e1, e2, e3, e4, e5]
theorem fm_there {a : Str} (wa : Wd a) {L : List Nat} (hL : L = (105 :: 102 :: 32 :: (116 :: 104 :: 101 :: 114 :: 101 :: 32 :: (91 :: (tl a ++ (93 :: (58 :: []))))))) :
    pWhole pStmt L = if isN a = true then some (.tuple [.str "there", .tuple [.tuple [.str "name", .str a]]]) else none := by
  have h0 : At L 0 (105 :: 102 :: 32 :: (116 :: 104 :: 101 :: 114 :: 101 :: 32 :: (91 :: (tl a ++ (93 :: (58 :: [])))))) := hL ▸ At.zero L
  have h1 : At L (0 + 3) (116 :: 104 :: 101 :: 114 :: 101 :: 32 :: (91 :: (tl a ++ (93 :: (58 :: []))))) := h0.go (a := [105, 102, 32])
  have h2 : At L (0 + 3 + 6) (91 :: (tl a ++ (93 :: (58 :: [])))) := h1.go (a := [116, 104, 101, 114, 101, 32])
  have h3 : At L (0 + 3 + 6 + 1) (tl a ++ (93 :: (58 :: []))) := h2.go (a := [91])
  have h4 : At L (0 + 3 + 6 + 1 + a.length) (93 :: (58 :: [])) := h3.goS
  have h5 : At L (0 + 3 + 6 + 1 + a.length + 1) (58 :: []) := h4.go (a := [93])
  have h6 : At L (0 + 3 + 6 + 1 + a.length + 1 + 1) [] := h5.go (a := [58])
  have e0 : pTake "let " L (0) = false := tkF lt_14 h0 rfl
  have e1 : pTake "call " L (0) = false := tkF lt_16 h0 rfl
  have e2 : pTake "if " L (0) = true := tkL lt_18 h0
  have e3 : pTake "there " L (0 + 3) = true := tkL lt_27 h1
  have e4 : pTake "[" L (0 + 3 + 6) = true := tkL lt_21 h2
  have e5 : pTake " + " L (0 + 3 + 6 + 1 + a.length) = false := tkF lt_17 h4 rfl
  have e6 : pTake "]" L (0 + 3 + 6 + 1 + a.length) = true := tkL lt_24 h4
  have e7 : pTake ":" L (0 + 3 + 6 + 1 + a.length + 1) = true := tkL lt_12 h5
  have n3 := at_name h3 wa.1 (Stp.one (by decide +kernel))
  have w3 := at_word h3 wa.1 (Stp.one (by decide +kernel))
  have hE : L.length ≤ 0 + 3 + 6 + 1 + a.length + 1 + 1 := List.drop_eq_nil_iff.mp h6
  have pa := part_name h3 wa (Stp.one (by decide +kernel))
  cases ha : isN a
  · rw [ha, if_neg (by decide)] at pa
    have x := expr_none pa
    simp [pWhole, pStmt, pChoice, pBuilt, pBef, pAft, pMap, len_br, x, e0, e1, e2, e3, e4, e5, e6, e7]
  · rw [ha, if_pos rfl] at pa
    have x := expr_one pa e5
    simp [pWhole, pStmt, pChoice, pBuilt, pBef, pAft, pMap, len_br, len_rbr, len_col, x, hE, e0, e1, e2, e3, e4, e5, e6, e7]
theorem fm_each {a b : Str} (wa : Wd a) (wb : Wd b) {L : List Nat} (hL : L = (101 :: 97 :: 99 :: 104 :: 32 :: (tl a ++ (32 :: 105 :: 110 :: 32 :: 34 :: (tl b ++ (34 :: 58 :: [])))))) :
    pWhole pStmt L = if (isN a && decide (b.length ≤ 8)) = true then some (.tuple [.str "each", .str a, .str b]) else none := by
  have h0 : At L 0 (101 :: 97 :: 99 :: 104 :: 32 :: (tl a ++ (32 :: 105 :: 110 :: 32 :: 34 :: (tl b ++ (34 :: 58 :: []))))) := hL ▸ At.zero L
  have h1 : At L (0 + 5) (tl a ++ (32 :: 105 :: 110 :: 32 :: 34 :: (tl b ++ (34 :: 58 :: [])))) := h0.go (a := [101, 97, 99, 104, 32])
  have h2 : At L (0 + 5 + a.length) (32 :: 105 :: 110 :: 32 :: 34 :: (tl b ++ (34 :: 58 :: []))) := h1.goS
  have h3 : At L (0 + 5 + a.length + 5) (tl b ++ (34 :: 58 :: [])) := h2.go (a := [32, 105, 110, 32, 34])
  have h4 : At L (0 + 5 + a.length + 5 + b.length) (34 :: 58 :: []) := h3.goS
  have h5 : At L (0 + 5 + a.length + 5 + b.length + 2) [] := h4.go (a := [34, 58])
  have e0 : pTake "let " L (0) = false := tkF lt_14 h0 rfl
  have e1 : pTake "call " L (0) = false := tkF lt_16 h0 rfl
  have e2 : pTake "if " L (0) = false := tkF lt_18 h0 rfl
  have e3 : pTake "each " L (0) = true := tkL lt_19 h0
  have e4 : pTake " in \"" L (0 + 5 + a.length) = true := tkL lt_28 h2
  have e5 : pTake "\":" L (0 + 5 + a.length + 5 + b.length) = true := tkL lt_26 h4
  have n1 := at_name h1 wa.1 (Stp.one (by decide +kernel))
  have w1 := at_word h1 wa.1 (Stp.one (by decide +kernel))
  have n3 := at_name h3 wb.1 (Stp.one (by decide +kernel))
  have w3 := at_word h3 wb.1 (Stp.one (by decide +kernel))
  have hE : L.length ≤ 0 + 5 + a.length + 5 + b.length + 2 := List.drop_eq_nil_iff.mp h5
  cases ha : isN a <;> by_cases hb : b.length ≤ 8 <;> simp [pWhole, pStmt, pQuoted, pMap, pAft, pBef, len_inq, len_qc, n1, w3, ha, hb, hE, e0, e1, e2, e3, e4, e5]
theorem fm_word {a : Str} (wa : Wd a) {L : List Nat} (hL : L = (tl a ++ [])) :
    pWhole pStmt L = if a = "fail" then some (.tuple [.str "fail"]) else none := by
  have h0 : At L 0 (tl a ++ []) := hL ▸ At.zero L
  have h1 : At L (0 + a.length) [] := h0.goS
  have e0 : pTake "let " L (0) = false := tkB lt_14 h0 wa.1
  have e1 : pTake "call " L (0) = false := tkB lt_16 h0 wa.1
  have e2 : pTake "if " L (0) = false := tkB lt_18 h0 wa.1
  have e3 : pTake "each " L (0) = false := tkB lt_19 h0 wa.1
  have e4 : pTake "return " L (0) = false := tkB lt_20 h0 wa.1
  have e5 : pTake "try:" L (0) = false := tkC h0 (c := 58) (by rw [lt_29]; decide) (by rw [List.append_nil]; exact fun q => absurd (wa.1 _ q) (by decide +kernel))
  have n0 := at_name h0 wa.1 Stp.nil
  have w0 := at_word h0 wa.1 Stp.nil
  have hE : L.length ≤ 0 + a.length := List.drop_eq_nil_iff.mp h1
  have l4 : ("fail" : Str).length = 4 := by decide +kernel
  by_cases hf : a = "fail"
  · have e6 : pTake "fail" L 0 = true := tkE (by rw [← hf]; have h := h0; rw [List.append_nil] at h; exact h)
    rw [hf, l4] at hE
    simp [pWhole, pStmt, hf, e6, hE, e0, e1, e2, e3, e4, e5]
  · cases e6 : pTake "fail" L 0 with
    | false => simp [pWhole, pStmt, hf, e6, e0, e1, e2, e3, e4, e5]
    | true =>
      have hd : L.drop 4 ≠ [] := fun q => hf (ext_tl ?_)
      · have hd2 : ¬ L.length ≤ 4 := fun q => hd (List.drop_eq_nil_iff.mpr q)
        simp [pWhole, pStmt, hf, e6, hd2, e0, e1, e2, e3, e4, e5]
      · unfold pTake at e6
        have e7 := of_decide_eq_true e6
        rw [l4, List.drop_zero] at e7
        rw [List.append_nil] at hL
        rw [← hL, ← e7]
        exact (List.take_of_length_le (List.drop_eq_nil_iff.mp q)).symm
end Sn

/-! ## law_k13: what is read of the drawn texts -/
namespace Sn
open PySem PySem.Spec PyProof.Rows L2 TL
theorem rd_item {z : Str} {d : PyData} {g : Bool} (hl : Ln z) (hw : pWhole pItem (tl z) = if g = true then some d else none) (hd : (∃ w rest, d = .tuple (.str w :: rest) ∧ w ∉ openers ∧ w ∉ binders) ∨ ∃ w n rest, d = .tuple (.str w :: .str n :: rest) ∧ w ∉ openers ∧ w ∈ binders) : readAll [z] = if g = true then .ok [d] else .error 1 := by
  have ht := take_in (R := R0) (k := 0) (z := z) (s := z) rfl hl
  rw [if_neg (by show ¬ 0 < 0; omega), if_pos rfl, hw] at ht
  cases g with
  | false => exact readAll_err (readL_bad hl.ne ht)
  | true =>
    have ht : R0.take z = (R0.shut 0).bind fun R' => R'.takeHead d 0 := ht
    rw [shut0 R0 rfl] at ht
    have ht : R0.take z = R0.takeHead d 0 := ht
    rcases hd with ⟨w, rest, rfl, ho, hb⟩ | ⟨w, n, rest, rfl, ho, hb⟩
    · rw [takeHead_plain hb ho] at ht
      have h1 := readL_good (n := 0) (zs := []) hl.ne ht
      exact readAll_ok (h1.trans rfl) (shut0 _ rfl 0)
    · rw [takeHead_bind hb ho (by show n ∉ []; simp)] at ht
      have h1 := readL_good (n := 0) (zs := []) hl.ne ht
      exact readAll_ok (h1.trans rfl) (shut0 _ rfl 0)
/-- behind the line def f(): -/
def RF : PR := ⟨[], ["f"], [⟨"def", [.str "f", .tuple []], none, []⟩]⟩
def defS : Str := "def f():"
theorem take_def : R0.take defS = some RF := by
  have hl : Ln defS := ln_lit (s := "def ") (r := [102, 40, 41, 58]) (by decide +kernel) (by decide +kernel)
  rw [take_in (k := 0) (s := defS) rfl hl, if_neg (by show ¬ 0 < 0; omega), if_pos rfl]
  have e : pWhole pItem (tl defS) = some (.tuple [.str "def", .str "f", .tuple []]) := by
    have hn : pName (tl defS) 4 = some (("f" : Str), 5) := by
      have := at_name (L := tl defS) (i := 4) (a := "f") (r := [40, 41, 58]) (by show (tl defS).drop 4 = _; decide +kernel) (by unfold Sg; decide +kernel) (Stp.one (by decide +kernel))
      rw [this, if_pos (by decide +kernel)]
      congr 2
    have e1 : pTake "use " (tl defS) 0 = false := by decide +kernel
    have e2 : pTake "offer " (tl defS) 0 = false := by decide +kernel
    have e3 : pTake "table " (tl defS) 0 = false := by decide +kernel
    have e4 : pTake "def " (tl defS) 0 = true := by decide +kernel
    have e5 : pTake "(" (tl defS) 5 = true := by decide +kernel
    have e6 : pTake "):" (tl defS) 6 = true := by decide +kernel
    have l1 : ("(" : Str).length = 1 := by decide +kernel
    have l2 : ("):" : Str).length = 2 := by decide +kernel
    have l8 : (tl defS).length = 8 := by decide +kernel
    simp [pWhole, pItem, pDefined, pAft, pListed, pList, hn, e1, e2, e3, e4, e5, e6, l1, l2, l8]
  rw [e, shut0 R0 rfl]
  simp only [Option.bind_some]
  have := takeHead_def (R := R0) (n := "f") (rest := [.tuple []]) (by show _ ∉ []; simp)
  exact this
/-- a statement without a block in f -/
theorem rd_row {z s : Str} {d : PyData} {g : Bool} (hz : tl z = List.replicate 4 32 ++ tl s) (hl : Ln s) (hw : pWhole pStmt (tl s) = if g = true then some d else none) (hd : ∃ w rest, d = .tuple (.str w :: rest) ∧ w ∉ openers ∧ w ∉ binders) :
    readAll [defS, z] = if g = true then .ok [.tuple [.str "def", .str "f", .tuple [], .tuple [d]]] else .error 2 := by
  have nz : tl z ≠ [] := by rw [hz]; simp [List.replicate]
  have nd : tl defS ≠ [] := by decide +kernel
  have ht := take_in (R := RF) (k := 1) (z := z) (s := s) hz hl
  rw [if_neg (by show ¬ 1 < 1; omega), if_neg (by decide), hw] at ht
  cases g with
  | false => exact readAll_err ((readL_good nd take_def).trans (readL_bad nz ht))
  | true =>
    have ht : RF.take z = (RF.shut 1).bind fun R' => R'.takeHead d 1 := ht
    rw [shut_le (by show 1 ≤ 1; omega)] at ht
    have ht : RF.take z = RF.takeHead d 1 := ht
    obtain ⟨w, rest, rfl, ho, hb⟩ := hd
    rw [takeHead_plain hb ho] at ht
    have h1 := readL_good (n := 0) (zs := [z]) nd take_def
    have h2 := readL_good (n := 1) (zs := []) nz ht
    have h3 := h1.trans (h2.trans rfl)
    exact readAll_ok h3 rfl
/-- a statement with a block in f -/
def failS : Str := "        fail"
theorem take_fail {w : Str} {rest : List PyData} : (⟨[], ["f"], [⟨w, rest, none, []⟩, ⟨"def", [.str "f", .tuple []], none, []⟩]⟩ : PR).take failS = some ⟨[], ["f"], [⟨w, rest, none, [.tuple [.str "fail"]]⟩, ⟨"def", [.str "f", .tuple []], none, []⟩]⟩ := by
  have hl : Ln ("fail" : Str) := ln_lit (s := "fail") (r := []) (by decide +kernel) (by decide +kernel)
  rw [take_in (k := 2) (s := "fail") (by decide +kernel) hl, if_neg (by show ¬ 2 < 2; omega), if_neg (by decide)]
  have e : pWhole pStmt (tl ("fail" : Str)) = some (.tuple [.str "fail"]) := by
    have := fm_word (a := "fail") ⟨by unfold Sg; decide +kernel, by decide +kernel⟩ (L := tl ("fail" : Str)) (by rw [List.append_nil])
    rw [this, if_pos rfl]
  rw [e, shut_le (by show 2 ≤ 2; omega)]
  simp only [Option.bind_some]
  exact takeHead_plain (w := "fail") (rest := []) (lv := 2) (by decide +kernel) (by decide +kernel)
theorem rd_blk {z s w : Str} {rest : List PyData} {g : Bool} (hz : tl z = List.replicate 4 32 ++ tl s) (hl : Ln s) (hw : pWhole pStmt (tl s) = if g = true then some (.tuple (.str w :: rest)) else none) (ho : w ∈ openers) (hb : w ∉ binders) (ht : w ≠ "try") :
    readAll [defS, z, failS] = if g = true then .ok [.tuple [.str "def", .str "f", .tuple [], .tuple [(⟨w, rest, none, [.tuple [.str "fail"]]⟩ : PF).whole]]] else .error 2 := by
  have nz : tl z ≠ [] := by rw [hz]; simp [List.replicate]
  have nd : tl defS ≠ [] := by decide +kernel
  have nf : tl failS ≠ [] := by decide +kernel
  have hk := take_in (R := RF) (k := 1) (z := z) (s := s) hz hl
  rw [if_neg (by show ¬ 1 < 1; omega), if_neg (by decide), hw] at hk
  cases g with
  | false => exact readAll_err ((readL_good nd take_def).trans (readL_bad nz hk))
  | true =>
    have hk : RF.take z = (RF.shut 1).bind fun R' => R'.takeHead (.tuple (.str w :: rest)) 1 := hk
    rw [shut_le (by show 1 ≤ 1; omega)] at hk
    have hk : RF.take z = RF.takeHead (.tuple (.str w :: rest)) 1 := hk
    rw [takeHead_open hb ho (by decide)] at hk
    have c1 : (⟨w, rest, none, [.tuple [.str "fail"]]⟩ : PF).complete = true := by
      unfold PF.complete
      show (true && (decide (w ≠ "try") || false)) = true
      rw [decide_eq_true ht]; rfl
    have e2 : PR.shut ⟨[], ["f"], [⟨w, rest, none, [.tuple [.str "fail"]]⟩, ⟨"def", [.str "f", .tuple []], none, []⟩]⟩ 0 = some ⟨[.tuple [.str "def", .str "f", .tuple [], .tuple [(⟨w, rest, none, [.tuple [.str "fail"]]⟩ : PF).whole]]], ["f"], []⟩ := by
      show PR.shutN 0 2 _ = _
      unfold PR.shutN
      rw [if_neg (by show ¬ 2 ≤ 0; omega)]
      show (if _ then _ else _) = _
      rw [if_pos c1]
      rfl
    have h1 := readL_good (n := 0) (zs := [z, failS]) nd take_def
    have h2 := readL_good (n := 1) (zs := [failS]) nz hk
    have h3 := readL_good (n := 2) (zs := []) nf (take_fail (w := w) (rest := rest))
    exact readAll_ok (h1.trans (h2.trans (h3.trans rfl))) e2
end Sn

/-! ## law_k13: the drawn words and lines -/
namespace Sn
open PySem PySem.Spec PyProof.Rows L2 TL
/-- the words near to a reserved one -/
def nearL (w : Str) : List Str := [w, w ++ "s", cutS (w ++ "_") none (some 8), w ++ "1", cutS (w ++ w) none (some 8), cutS w none (some 2) ++ "x", cutS (w ++ "if") none (some 8)]
structure Near (a : Str) : Prop where
  wd : Wd a
  len : a.length ≤ 9
  good : isN a = (!decide (a ∈ resv) && decide (a.length < 9))
theorem near_all : ∀ w ∈ resv, ∀ a ∈ nearL w ++ [("a" : Str), w ++ "x"], ((∀ c ∈ tl a, c ∈ tl sgnS) ∧ tl a ≠ []) ∧ a.length ≤ 9 ∧ isN a = (!decide (a ∈ resv) && decide (a.length < 9)) := by decide +kernel
theorem near_of {w a : Str} (hw : w ∈ resv) (h : a ∈ nearL w ++ [("a" : Str), w ++ "x"]) : Near a := by
  obtain ⟨⟨h1, h2⟩, h3, h4⟩ := near_all w hw a h
  exact ⟨⟨h1, h2⟩, h3, h4⟩
theorem Near.nf {a : Str} (h : Near a) : 10 ∉ tl a := fun q => absurd (h.wd.1 _ q) (by decide +kernel)
theorem sgn_small : ∀ c ∈ tl sgnS, c < 128 := by decide +kernel
theorem size_len (z : Str) : z.cps.size = z.length := rfl
/-- data of texts: how deep, how much -/
structure Sh (d : PyData) (k w : Nat) : Prop where
  lay : d.canLay0 = true
  dep : d.depth ≤ k
  wei : d.weight ≤ w
  isho : d.intsShort 13 = true
  show_ : d.showable = true
structure ShA (ds : List PyData) (k w : Nat) : Prop where
  lay : PyData.canLayAll0 ds = true
  dep : PyData.depthAll ds ≤ k
  wei : PyData.weightAll ds ≤ w
  isho : PyData.intsShortAll 13 ds = true
  show_ : PyData.showableAll ds = true
theorem Sh.none : Sh .none 0 0 := ⟨rfl, Nat.le_refl _, Nat.le_refl _, rfl, rfl⟩
theorem Sh.lit {z : Str} (h : PyData.strOk z = true) (l : z.length ≤ 9) : Sh (.str z) 0 9 := ⟨by simpa [PyData.canLay0] using h, by simp [PyData.depth], by simp only [PyData.weight]; exact l, by simp [PyData.intsShort], rfl⟩
theorem Sh.word {a : Str} (h : Near a) : Sh (.str a) 0 9 := by
  refine Sh.lit ?_ h.len
  unfold PyData.strOk
  rw [← Array.all_toList, List.all_eq_true]
  intro c hc
  have := sgn_small c (h.wd.1 c hc)
  exact decide_eq_true (by omega)
theorem Sh.tup {ds : List PyData} {k w : Nat} (h : ShA ds k w) : Sh (.tuple ds) (k + 1) w := ⟨by simpa [PyData.canLay0] using h.lay, by simpa [PyData.depth] using h.dep, by simpa [PyData.weight] using h.wei, by simpa [PyData.intsShort] using h.isho, by simpa [PyData.showable] using h.show_⟩
theorem ShA.nil : ShA [] 0 0 := ⟨rfl, Nat.le_refl _, Nat.le_refl _, rfl, rfl⟩
theorem ShA.cons {d : PyData} {ds : List PyData} {k w k' w' : Nat} (h : Sh d k w) (a : ShA ds k' w') : ShA (d :: ds) (max k k') (w + 1 + w') := by
  have h1 := h.dep
  have h2 := a.dep
  have h3 := h.wei
  have h4 := a.wei
  refine ⟨by simp [PyData.canLayAll0, h.lay, a.lay], by simp only [PyData.depthAll]; omega, by simp only [PyData.weightAll]; omega, by simp [PyData.intsShortAll, h.isho, a.isho], by simp [PyData.showableAll, h.show_, a.show_]⟩
def Shw (d : PyData) : Prop := ∃ k w, Sh d k w ∧ k ≤ 20 ∧ w ≤ 1000
structure LineP (p : Ps PyData) (z : Str) (d : PyData) (g : Bool) : Prop where
  ln : Ln z
  nf : 10 ∉ tl z
  len : z.length ≤ 200
  rd : pWhole p (tl z) = if g = true then some d else none
  sh : Shw d
  hd : (∃ w rest, d = .tuple (.str w :: rest) ∧ w ∉ openers ∧ w ∉ binders) ∨ ∃ w n rest, d = .tuple (.str w :: .str n :: rest) ∧ w ∉ openers ∧ w ∈ binders
structure RowP (z : Str) (d : PyData) (g : Bool) : Prop extends LineP pStmt z d g where
  pl : ∃ w rest, d = .tuple (.str w :: rest) ∧ w ∉ openers ∧ w ∉ binders
structure BlkP (z : Str) (d : PyData) (g : Bool) : Prop where
  ln : Ln z
  nf : 10 ∉ tl z
  len : z.length ≤ 200
  ex : ∃ w rest, pWhole pStmt (tl z) = (if g = true then some (.tuple (.str w :: rest)) else none) ∧ w ∈ openers ∧ w ∉ binders ∧ w ≠ "try" ∧ d = (⟨w, rest, none, [.tuple [.str "fail"]]⟩ : PF).whole
  sh : Shw d
theorem lt9 (n : Nat) : decide (((n : Nat) : Int) < 9) = decide (n ≤ 8) := decide_eq_decide.mpr (by omega)
theorem max9 (n m : Nat) : decide ((if ((m : Nat) : Int) > ((n : Nat) : Int) then ((m : Nat) : Int) else ((n : Nat) : Int)) < 9) = (decide (n ≤ 8) && decide (m ≤ 8)) := by
  rw [Bool.eq_iff_iff]
  simp only [decide_eq_true_eq, Bool.and_eq_true]
  split <;> omega
theorem len_app' (x y : Str) : (x ++ y).length = x.length + y.length := by rw [len_tl, tl_append, List.length_append, ← len_tl, ← len_tl]
theorem lq_0 : tl ("entry " : Str) = [101, 110, 116, 114, 121, 32] := by decide +kernel
theorem lz_0 : ("entry " : Str).length = 6 := by decide +kernel
theorem lq_1 : tl ("use " : Str) = [117, 115, 101, 32] := by decide +kernel
theorem lz_1 : ("use " : Str).length = 4 := by decide +kernel
theorem lq_2 : tl (".*" : Str) = [46, 42] := by decide +kernel
theorem lz_2 : (".*" : Str).length = 2 := by decide +kernel
theorem lq_3 : tl ("." : Str) = [46] := by decide +kernel
theorem lz_3 : ("." : Str).length = 1 := by decide +kernel
theorem lq_4 : tl (" as " : Str) = [32, 97, 115, 32] := by decide +kernel
theorem lz_4 : (" as " : Str).length = 4 := by decide +kernel
theorem lq_5 : tl ("set " : Str) = [115, 101, 116, 32] := by decide +kernel
theorem lz_5 : ("set " : Str).length = 4 := by decide +kernel
theorem lq_6 : tl (" = \"" : Str) = [32, 61, 32, 34] := by decide +kernel
theorem lz_6 : (" = \"" : Str).length = 4 := by decide +kernel
theorem lq_7 : tl ("\"" : Str) = [34] := by decide +kernel
theorem lz_7 : ("\"" : Str).length = 1 := by decide +kernel
theorem lq_8 : tl ("offer " : Str) = [111, 102, 102, 101, 114, 32] := by decide +kernel
theorem lz_8 : ("offer " : Str).length = 6 := by decide +kernel
theorem lq_9 : tl (" " : Str) = [32] := by decide +kernel
theorem lz_9 : (" " : Str).length = 1 := by decide +kernel
theorem lq_10 : tl ("table " : Str) = [116, 97, 98, 108, 101, 32] := by decide +kernel
theorem lz_10 : ("table " : Str).length = 6 := by decide +kernel
theorem lq_11 : tl (": " : Str) = [58, 32] := by decide +kernel
theorem lz_11 : (": " : Str).length = 2 := by decide +kernel
theorem lq_12 : tl ("=" : Str) = [61] := by decide +kernel
theorem lz_12 : ("=" : Str).length = 1 := by decide +kernel
theorem lq_13 : tl ("let " : Str) = [108, 101, 116, 32] := by decide +kernel
theorem lz_13 : ("let " : Str).length = 4 := by decide +kernel
theorem lq_14 : tl (" = " : Str) = [32, 61, 32] := by decide +kernel
theorem lz_14 : (" = " : Str).length = 3 := by decide +kernel
theorem lq_15 : tl ("return " : Str) = [114, 101, 116, 117, 114, 110, 32] := by decide +kernel
theorem lz_15 : ("return " : Str).length = 7 := by decide +kernel
theorem lq_16 : tl (" + \"" : Str) = [32, 43, 32, 34] := by decide +kernel
theorem lz_16 : (" + \"" : Str).length = 4 := by decide +kernel
theorem lq_17 : tl ("call " : Str) = [99, 97, 108, 108, 32] := by decide +kernel
theorem lz_17 : ("call " : Str).length = 5 := by decide +kernel
theorem lq_18 : tl ("(" : Str) = [40] := by decide +kernel
theorem lz_18 : ("(" : Str).length = 1 := by decide +kernel
theorem lq_19 : tl (")" : Str) = [41] := by decide +kernel
theorem lz_19 : (")" : Str).length = 1 := by decide +kernel
theorem lq_20 : tl (" = call " : Str) = [32, 61, 32, 99, 97, 108, 108, 32] := by decide +kernel
theorem lz_20 : (" = call " : Str).length = 8 := by decide +kernel
theorem lq_21 : tl ("[" : Str) = [91] := by decide +kernel
theorem lz_21 : ("[" : Str).length = 1 := by decide +kernel
theorem lq_22 : tl ("]()" : Str) = [93, 40, 41] := by decide +kernel
theorem lz_22 : ("]()" : Str).length = 3 := by decide +kernel
theorem lq_23 : tl ("call [" : Str) = [99, 97, 108, 108, 32, 91] := by decide +kernel
theorem lz_23 : ("call [" : Str).length = 6 := by decide +kernel
theorem lq_24 : tl ("\"]()" : Str) = [34, 93, 40, 41] := by decide +kernel
theorem lz_24 : ("\"]()" : Str).length = 4 := by decide +kernel
theorem lq_25 : tl ("if " : Str) = [105, 102, 32] := by decide +kernel
theorem lz_25 : ("if " : Str).length = 3 := by decide +kernel
theorem lq_26 : tl (" == \"" : Str) = [32, 61, 61, 32, 34] := by decide +kernel
theorem lz_26 : (" == \"" : Str).length = 5 := by decide +kernel
theorem lq_27 : tl ("\":" : Str) = [34, 58] := by decide +kernel
theorem lz_27 : ("\":" : Str).length = 2 := by decide +kernel
theorem lq_28 : tl ("if there [" : Str) = [105, 102, 32, 116, 104, 101, 114, 101, 32, 91] := by decide +kernel
theorem lz_28 : ("if there [" : Str).length = 10 := by decide +kernel
theorem lq_29 : tl ("]:" : Str) = [93, 58] := by decide +kernel
theorem lz_29 : ("]:" : Str).length = 2 := by decide +kernel
theorem lq_30 : tl ("each " : Str) = [101, 97, 99, 104, 32] := by decide +kernel
theorem lz_30 : ("each " : Str).length = 5 := by decide +kernel
theorem lq_31 : tl (" in \"" : Str) = [32, 105, 110, 32, 34] := by decide +kernel
theorem lz_31 : (" in \"" : Str).length = 5 := by decide +kernel
theorem LP_entry {a : Str} (na : Near a)  : LineP pItem (("entry " : Str) ++ a) (.tuple [.str "entry", .str a]) (isN a) := by
  have e : tl (("entry " : Str) ++ a) = (101 :: 110 :: 116 :: 114 :: 121 :: 32 :: (tl a ++ [])) := by simp [tl_append, lq_0,  List.append_assoc]
  have fa := na.nf
  have la := na.len
  have hln : Ln (("entry " : Str) ++ a) := ln_lit (s := "entry ") (r := (tl a ++ [])) (by rw [e, lq_0]; rfl) (by decide +kernel)
  have hnf : 10 ∉ tl (("entry " : Str) ++ a) := by rw [e]; simp [fa]
  have hle : (("entry " : Str) ++ a).length ≤ 200 := by simp only [len_app', lz_0, ]; omega
  have hfm := fm_entry na.wd  e
  have hsh : Shw (.tuple [.str "entry", .str a]) := ⟨_, _, (Sh.tup (.cons (Sh.lit (by decide +kernel) (by decide +kernel)) (.cons (Sh.word na) .nil))), by decide, by decide⟩
  have hrd : pWhole pItem (tl (("entry " : Str) ++ a)) = if (isN a) = true then some (.tuple [.str "entry", .str a]) else none := by
    rw [hfm]
  exact ⟨hln, hnf, hle, hrd, hsh, .inl ⟨_, _, rfl, by decide +kernel, by decide +kernel⟩⟩
theorem LP_star {a : Str} (na : Near a)  : LineP pItem (("use " : Str) ++ a ++ (".*" : Str)) (.tuple [.str "star", .str a]) (isN a) := by
  have e : tl (("use " : Str) ++ a ++ (".*" : Str)) = (117 :: 115 :: 101 :: 32 :: (tl a ++ (46 :: 42 :: []))) := by simp [tl_append, lq_1, lq_2,  List.append_assoc]
  have fa := na.nf
  have la := na.len
  have hln : Ln (("use " : Str) ++ a ++ (".*" : Str)) := ln_lit (s := "use ") (r := (tl a ++ (46 :: 42 :: []))) (by rw [e, lq_1]; rfl) (by decide +kernel)
  have hnf : 10 ∉ tl (("use " : Str) ++ a ++ (".*" : Str)) := by rw [e]; simp [fa]
  have hle : (("use " : Str) ++ a ++ (".*" : Str)).length ≤ 200 := by simp only [len_app', lz_1, lz_2, ]; omega
  have hfm := fm_star na.wd  e
  have hsh : Shw (.tuple [.str "star", .str a]) := ⟨_, _, (Sh.tup (.cons (Sh.lit (by decide +kernel) (by decide +kernel)) (.cons (Sh.word na) .nil))), by decide, by decide⟩
  have hrd : pWhole pItem (tl (("use " : Str) ++ a ++ (".*" : Str))) = if (isN a) = true then some (.tuple [.str "star", .str a]) else none := by
    rw [hfm]
  exact ⟨hln, hnf, hle, hrd, hsh, .inl ⟨_, _, rfl, by decide +kernel, by decide +kernel⟩⟩
theorem LP_useas {a b c : Str} (na : Near a) (nb : Near b) (nc : Near c) {q : Bool} (hq : q = isN c ∨ b = c) : LineP pItem (("use " : Str) ++ a ++ ("." : Str) ++ b ++ (" as " : Str) ++ c) (.tuple [.str "use", .str c, .str a, .str b]) (isN a && (isN b && (q && !decide (b = c)))) := by
  have e : tl (("use " : Str) ++ a ++ ("." : Str) ++ b ++ (" as " : Str) ++ c) = (117 :: 115 :: 101 :: 32 :: (tl a ++ (46 :: (tl b ++ (32 :: 97 :: 115 :: 32 :: (tl c ++ [])))))) := by simp [tl_append, lq_1, lq_3, lq_4,  List.append_assoc]
  have fa := na.nf
  have la := na.len
  have fb := nb.nf
  have lb := nb.len
  have fc := nc.nf
  have lc := nc.len
  have hln : Ln (("use " : Str) ++ a ++ ("." : Str) ++ b ++ (" as " : Str) ++ c) := ln_lit (s := "use ") (r := (tl a ++ (46 :: (tl b ++ (32 :: 97 :: 115 :: 32 :: (tl c ++ [])))))) (by rw [e, lq_1]; rfl) (by decide +kernel)
  have hnf : 10 ∉ tl (("use " : Str) ++ a ++ ("." : Str) ++ b ++ (" as " : Str) ++ c) := by rw [e]; simp [fa, fb, fc]
  have hle : (("use " : Str) ++ a ++ ("." : Str) ++ b ++ (" as " : Str) ++ c).length ≤ 200 := by simp only [len_app', lz_1, lz_3, lz_4, ]; omega
  have hfm := fm_useas na.wd nb.wd nc.wd  e
  have hsh : Shw (.tuple [.str "use", .str c, .str a, .str b]) := ⟨_, _, (Sh.tup (.cons (Sh.lit (by decide +kernel) (by decide +kernel)) (.cons (Sh.word nc) (.cons (Sh.word na) (.cons (Sh.word nb) .nil))))), by decide, by decide⟩
  have hrd : pWhole pItem (tl (("use " : Str) ++ a ++ ("." : Str) ++ b ++ (" as " : Str) ++ c)) = if (isN a && (isN b && (q && !decide (b = c)))) = true then some (.tuple [.str "use", .str c, .str a, .str b]) else none := by
    rw [hfm]
    rcases hq with rfl | rfl
    · simp only [Bool.and_assoc]
    · simp
  exact ⟨hln, hnf, hle, hrd, hsh, .inr ⟨_, _, _, rfl, by decide +kernel, by decide +kernel⟩⟩
theorem LP_use {a b : Str} (na : Near a) (nb : Near b)  : LineP pItem (("use " : Str) ++ a ++ ("." : Str) ++ b) (.tuple [.str "use", .str b, .str a, .str b]) (isN a && isN b) := by
  have e : tl (("use " : Str) ++ a ++ ("." : Str) ++ b) = (117 :: 115 :: 101 :: 32 :: (tl a ++ (46 :: (tl b ++ [])))) := by simp [tl_append, lq_1, lq_3,  List.append_assoc]
  have fa := na.nf
  have la := na.len
  have fb := nb.nf
  have lb := nb.len
  have hln : Ln (("use " : Str) ++ a ++ ("." : Str) ++ b) := ln_lit (s := "use ") (r := (tl a ++ (46 :: (tl b ++ [])))) (by rw [e, lq_1]; rfl) (by decide +kernel)
  have hnf : 10 ∉ tl (("use " : Str) ++ a ++ ("." : Str) ++ b) := by rw [e]; simp [fa, fb]
  have hle : (("use " : Str) ++ a ++ ("." : Str) ++ b).length ≤ 200 := by simp only [len_app', lz_1, lz_3, ]; omega
  have hfm := fm_use na.wd nb.wd  e
  have hsh : Shw (.tuple [.str "use", .str b, .str a, .str b]) := ⟨_, _, (Sh.tup (.cons (Sh.lit (by decide +kernel) (by decide +kernel)) (.cons (Sh.word nb) (.cons (Sh.word na) (.cons (Sh.word nb) .nil))))), by decide, by decide⟩
  have hrd : pWhole pItem (tl (("use " : Str) ++ a ++ ("." : Str) ++ b)) = if (isN a && isN b) = true then some (.tuple [.str "use", .str b, .str a, .str b]) else none := by
    rw [hfm]
  exact ⟨hln, hnf, hle, hrd, hsh, .inr ⟨_, _, _, rfl, by decide +kernel, by decide +kernel⟩⟩
theorem LP_set {a b : Str} (na : Near a) (nb : Near b)  : LineP pItem (("set " : Str) ++ a ++ (" = \"" : Str) ++ b ++ ("\"" : Str)) (.tuple [.str "set", .str a, .str b]) (isN a && decide (((b.length : Nat) : Int) < 9)) := by
  have e : tl (("set " : Str) ++ a ++ (" = \"" : Str) ++ b ++ ("\"" : Str)) = (115 :: 101 :: 116 :: 32 :: (tl a ++ (32 :: 61 :: 32 :: 34 :: (tl b ++ (34 :: []))))) := by simp [tl_append, lq_5, lq_6, lq_7,  List.append_assoc]
  have fa := na.nf
  have la := na.len
  have fb := nb.nf
  have lb := nb.len
  have hln : Ln (("set " : Str) ++ a ++ (" = \"" : Str) ++ b ++ ("\"" : Str)) := ln_lit (s := "set ") (r := (tl a ++ (32 :: 61 :: 32 :: 34 :: (tl b ++ (34 :: []))))) (by rw [e, lq_5]; rfl) (by decide +kernel)
  have hnf : 10 ∉ tl (("set " : Str) ++ a ++ (" = \"" : Str) ++ b ++ ("\"" : Str)) := by rw [e]; simp [fa, fb]
  have hle : (("set " : Str) ++ a ++ (" = \"" : Str) ++ b ++ ("\"" : Str)).length ≤ 200 := by simp only [len_app', lz_5, lz_6, lz_7, ]; omega
  have hfm := fm_set na.wd nb.wd  e
  have hsh : Shw (.tuple [.str "set", .str a, .str b]) := ⟨_, _, (Sh.tup (.cons (Sh.lit (by decide +kernel) (by decide +kernel)) (.cons (Sh.word na) (.cons (Sh.word nb) .nil)))), by decide, by decide⟩
  have hrd : pWhole pItem (tl (("set " : Str) ++ a ++ (" = \"" : Str) ++ b ++ ("\"" : Str))) = if (isN a && decide (((b.length : Nat) : Int) < 9)) = true then some (.tuple [.str "set", .str a, .str b]) else none := by
    rw [hfm, lt9]
  exact ⟨hln, hnf, hle, hrd, hsh, .inr ⟨_, _, _, rfl, by decide +kernel, by decide +kernel⟩⟩
theorem LP_offer {a b : Str} (na : Near a) (nb : Near b) (ab : a ≠ b) : LineP pItem (("offer " : Str) ++ a ++ (" " : Str) ++ b) (.tuple [.str "offer", .tuple [.str a, .str b]]) (isN a && isN b) := by
  have e : tl (("offer " : Str) ++ a ++ (" " : Str) ++ b) = (111 :: 102 :: 102 :: 101 :: 114 :: 32 :: (tl a ++ (32 :: (tl b ++ [])))) := by simp [tl_append, lq_8, lq_9,  List.append_assoc]
  have fa := na.nf
  have la := na.len
  have fb := nb.nf
  have lb := nb.len
  have hln : Ln (("offer " : Str) ++ a ++ (" " : Str) ++ b) := ln_lit (s := "offer ") (r := (tl a ++ (32 :: (tl b ++ [])))) (by rw [e, lq_8]; rfl) (by decide +kernel)
  have hnf : 10 ∉ tl (("offer " : Str) ++ a ++ (" " : Str) ++ b) := by rw [e]; simp [fa, fb]
  have hle : (("offer " : Str) ++ a ++ (" " : Str) ++ b).length ≤ 200 := by simp only [len_app', lz_8, lz_9, ]; omega
  have hfm := fm_offer na.wd nb.wd ab e
  have hsh : Shw (.tuple [.str "offer", .tuple [.str a, .str b]]) := ⟨_, _, (Sh.tup (.cons (Sh.lit (by decide +kernel) (by decide +kernel)) (.cons (Sh.tup (.cons (Sh.word na) (.cons (Sh.word nb) .nil))) .nil))), by decide, by decide⟩
  have hrd : pWhole pItem (tl (("offer " : Str) ++ a ++ (" " : Str) ++ b)) = if (isN a && isN b) = true then some (.tuple [.str "offer", .tuple [.str a, .str b]]) else none := by
    rw [hfm]
  exact ⟨hln, hnf, hle, hrd, hsh, .inl ⟨_, _, rfl, by decide +kernel, by decide +kernel⟩⟩
theorem LP_table {a b c : Str} (na : Near a) (nb : Near b) (nc : Near c) (bc : b ≠ c) : LineP pItem (("table " : Str) ++ a ++ (": " : Str) ++ b ++ ("=" : Str) ++ a ++ (" " : Str) ++ c ++ ("=" : Str) ++ a) (.tuple [.str "table", .str a, .tuple [.tuple [.str b, .str a], .tuple [.str c, .str a]]]) (isN a && decide ((if ((c.length : Nat) : Int) > ((b.length : Nat) : Int) then ((c.length : Nat) : Int) else ((b.length : Nat) : Int)) < 9)) := by
  have e : tl (("table " : Str) ++ a ++ (": " : Str) ++ b ++ ("=" : Str) ++ a ++ (" " : Str) ++ c ++ ("=" : Str) ++ a) = (116 :: 97 :: 98 :: 108 :: 101 :: 32 :: (tl a ++ (58 :: 32 :: (tl b ++ (61 :: (tl a ++ (32 :: (tl c ++ (61 :: (tl a ++ [])))))))))) := by simp [tl_append, lq_10, lq_11, lq_12, lq_9,  List.append_assoc]
  have fa := na.nf
  have la := na.len
  have fb := nb.nf
  have lb := nb.len
  have fc := nc.nf
  have lc := nc.len
  have hln : Ln (("table " : Str) ++ a ++ (": " : Str) ++ b ++ ("=" : Str) ++ a ++ (" " : Str) ++ c ++ ("=" : Str) ++ a) := ln_lit (s := "table ") (r := (tl a ++ (58 :: 32 :: (tl b ++ (61 :: (tl a ++ (32 :: (tl c ++ (61 :: (tl a ++ [])))))))))) (by rw [e, lq_10]; rfl) (by decide +kernel)
  have hnf : 10 ∉ tl (("table " : Str) ++ a ++ (": " : Str) ++ b ++ ("=" : Str) ++ a ++ (" " : Str) ++ c ++ ("=" : Str) ++ a) := by rw [e]; simp [fa, fb, fc]
  have hle : (("table " : Str) ++ a ++ (": " : Str) ++ b ++ ("=" : Str) ++ a ++ (" " : Str) ++ c ++ ("=" : Str) ++ a).length ≤ 200 := by simp only [len_app', lz_10, lz_11, lz_12, lz_9, ]; omega
  have hfm := fm_table na.wd nb.wd nc.wd bc e
  have hsh : Shw (.tuple [.str "table", .str a, .tuple [.tuple [.str b, .str a], .tuple [.str c, .str a]]]) := ⟨_, _, (Sh.tup (.cons (Sh.lit (by decide +kernel) (by decide +kernel)) (.cons (Sh.word na) (.cons (Sh.tup (.cons (Sh.tup (.cons (Sh.word nb) (.cons (Sh.word na) .nil))) (.cons (Sh.tup (.cons (Sh.word nc) (.cons (Sh.word na) .nil))) .nil))) .nil)))), by decide, by decide⟩
  have hrd : pWhole pItem (tl (("table " : Str) ++ a ++ (": " : Str) ++ b ++ ("=" : Str) ++ a ++ (" " : Str) ++ c ++ ("=" : Str) ++ a)) = if (isN a && decide ((if ((c.length : Nat) : Int) > ((b.length : Nat) : Int) then ((c.length : Nat) : Int) else ((b.length : Nat) : Int)) < 9)) = true then some (.tuple [.str "table", .str a, .tuple [.tuple [.str b, .str a], .tuple [.str c, .str a]]]) else none := by
    rw [hfm, max9, Bool.and_assoc]
  exact ⟨hln, hnf, hle, hrd, hsh, .inr ⟨_, _, _, rfl, by decide +kernel, by decide +kernel⟩⟩
theorem LP_ask {a b : Str} (na : Near a) (nb : Near b) (hk : b = "ask") : RowP (("let " : Str) ++ a ++ (" = " : Str) ++ b) (.tuple [.str "ask", .str a]) (isN a && (isN b || decide (b = "ask"))) := by
  have e : tl (("let " : Str) ++ a ++ (" = " : Str) ++ b) = (108 :: 101 :: 116 :: 32 :: (tl a ++ (32 :: 61 :: 32 :: (tl b ++ [])))) := by simp [tl_append, lq_13, lq_14,  List.append_assoc]
  have fa := na.nf
  have la := na.len
  have fb := nb.nf
  have lb := nb.len
  have hln : Ln (("let " : Str) ++ a ++ (" = " : Str) ++ b) := ln_lit (s := "let ") (r := (tl a ++ (32 :: 61 :: 32 :: (tl b ++ [])))) (by rw [e, lq_13]; rfl) (by decide +kernel)
  have hnf : 10 ∉ tl (("let " : Str) ++ a ++ (" = " : Str) ++ b) := by rw [e]; simp [fa, fb]
  have hle : (("let " : Str) ++ a ++ (" = " : Str) ++ b).length ≤ 200 := by simp only [len_app', lz_13, lz_14, ]; omega
  have hfm := fm_let na.wd nb.wd  e
  have hsh : Shw (.tuple [.str "ask", .str a]) := ⟨_, _, (Sh.tup (.cons (Sh.lit (by decide +kernel) (by decide +kernel)) (.cons (Sh.word na) .nil))), by decide, by decide⟩
  have hrd : pWhole pStmt (tl (("let " : Str) ++ a ++ (" = " : Str) ++ b)) = if (isN a && (isN b || decide (b = "ask"))) = true then some (.tuple [.str "ask", .str a]) else none := by
    rw [hfm]
    cases ha : isN a <;> simp [hk]
  exact ⟨⟨hln, hnf, hle, hrd, hsh, .inl ⟨_, _, rfl, by decide +kernel, by decide +kernel⟩⟩, ⟨_, _, rfl, by decide +kernel, by decide +kernel⟩⟩
theorem LP_let {a b : Str} (na : Near a) (nb : Near b) (hk : b ≠ "ask") : RowP (("let " : Str) ++ a ++ (" = " : Str) ++ b) (.tuple [.str "let", .str a, .tuple [.tuple [.str "name", .str b]]]) (isN a && (isN b || decide (b = "ask"))) := by
  have e : tl (("let " : Str) ++ a ++ (" = " : Str) ++ b) = (108 :: 101 :: 116 :: 32 :: (tl a ++ (32 :: 61 :: 32 :: (tl b ++ [])))) := by simp [tl_append, lq_13, lq_14,  List.append_assoc]
  have fa := na.nf
  have la := na.len
  have fb := nb.nf
  have lb := nb.len
  have hln : Ln (("let " : Str) ++ a ++ (" = " : Str) ++ b) := ln_lit (s := "let ") (r := (tl a ++ (32 :: 61 :: 32 :: (tl b ++ [])))) (by rw [e, lq_13]; rfl) (by decide +kernel)
  have hnf : 10 ∉ tl (("let " : Str) ++ a ++ (" = " : Str) ++ b) := by rw [e]; simp [fa, fb]
  have hle : (("let " : Str) ++ a ++ (" = " : Str) ++ b).length ≤ 200 := by simp only [len_app', lz_13, lz_14, ]; omega
  have hfm := fm_let na.wd nb.wd  e
  have hsh : Shw (.tuple [.str "let", .str a, .tuple [.tuple [.str "name", .str b]]]) := ⟨_, _, (Sh.tup (.cons (Sh.lit (by decide +kernel) (by decide +kernel)) (.cons (Sh.word na) (.cons (Sh.tup (.cons (Sh.tup (.cons (Sh.lit (by decide +kernel) (by decide +kernel)) (.cons (Sh.word nb) .nil))) .nil)) .nil)))), by decide, by decide⟩
  have hrd : pWhole pStmt (tl (("let " : Str) ++ a ++ (" = " : Str) ++ b)) = if (isN a && (isN b || decide (b = "ask"))) = true then some (.tuple [.str "let", .str a, .tuple [.tuple [.str "name", .str b]]]) else none := by
    rw [hfm]
    cases ha : isN a <;> cases hb : isN b <;> simp [hk]
  exact ⟨⟨hln, hnf, hle, hrd, hsh, .inl ⟨_, _, rfl, by decide +kernel, by decide +kernel⟩⟩, ⟨_, _, rfl, by decide +kernel, by decide +kernel⟩⟩
theorem LP_return {a b : Str} (na : Near a) (nb : Near b)  : RowP (("return " : Str) ++ a ++ (" + \"" : Str) ++ b ++ ("\"" : Str)) (.tuple [.str "return", .tuple [.tuple [.str "name", .str a], .tuple [.str "text", .str b]]]) (isN a && decide (((b.length : Nat) : Int) < 9)) := by
  have e : tl (("return " : Str) ++ a ++ (" + \"" : Str) ++ b ++ ("\"" : Str)) = (114 :: 101 :: 116 :: 117 :: 114 :: 110 :: 32 :: (tl a ++ (32 :: 43 :: 32 :: 34 :: (tl b ++ (34 :: []))))) := by simp [tl_append, lq_15, lq_16, lq_7,  List.append_assoc]
  have fa := na.nf
  have la := na.len
  have fb := nb.nf
  have lb := nb.len
  have hln : Ln (("return " : Str) ++ a ++ (" + \"" : Str) ++ b ++ ("\"" : Str)) := ln_lit (s := "return ") (r := (tl a ++ (32 :: 43 :: 32 :: 34 :: (tl b ++ (34 :: []))))) (by rw [e, lq_15]; rfl) (by decide +kernel)
  have hnf : 10 ∉ tl (("return " : Str) ++ a ++ (" + \"" : Str) ++ b ++ ("\"" : Str)) := by rw [e]; simp [fa, fb]
  have hle : (("return " : Str) ++ a ++ (" + \"" : Str) ++ b ++ ("\"" : Str)).length ≤ 200 := by simp only [len_app', lz_15, lz_16, lz_7, ]; omega
  have hfm := fm_return na.wd nb.wd  e
  have hsh : Shw (.tuple [.str "return", .tuple [.tuple [.str "name", .str a], .tuple [.str "text", .str b]]]) := ⟨_, _, (Sh.tup (.cons (Sh.lit (by decide +kernel) (by decide +kernel)) (.cons (Sh.tup (.cons (Sh.tup (.cons (Sh.lit (by decide +kernel) (by decide +kernel)) (.cons (Sh.word na) .nil))) (.cons (Sh.tup (.cons (Sh.lit (by decide +kernel) (by decide +kernel)) (.cons (Sh.word nb) .nil))) .nil))) .nil))), by decide, by decide⟩
  have hrd : pWhole pStmt (tl (("return " : Str) ++ a ++ (" + \"" : Str) ++ b ++ ("\"" : Str))) = if (isN a && decide (((b.length : Nat) : Int) < 9)) = true then some (.tuple [.str "return", .tuple [.tuple [.str "name", .str a], .tuple [.str "text", .str b]]]) else none := by
    rw [hfm, lt9]
  exact ⟨⟨hln, hnf, hle, hrd, hsh, .inl ⟨_, _, rfl, by decide +kernel, by decide +kernel⟩⟩, ⟨_, _, rfl, by decide +kernel, by decide +kernel⟩⟩
theorem LP_call {a b : Str} (na : Near a) (nb : Near b)  : RowP (("call " : Str) ++ a ++ ("(" : Str) ++ b ++ (")" : Str)) (.tuple [.str "call", .none, .tuple [.str "name", .str a], .tuple [.tuple [.tuple [.str "name", .str b]]]]) (isN a && isN b) := by
  have e : tl (("call " : Str) ++ a ++ ("(" : Str) ++ b ++ (")" : Str)) = (99 :: 97 :: 108 :: 108 :: 32 :: (tl a ++ (40 :: (tl b ++ (41 :: []))))) := by simp [tl_append, lq_17, lq_18, lq_19,  List.append_assoc]
  have fa := na.nf
  have la := na.len
  have fb := nb.nf
  have lb := nb.len
  have hln : Ln (("call " : Str) ++ a ++ ("(" : Str) ++ b ++ (")" : Str)) := ln_lit (s := "call ") (r := (tl a ++ (40 :: (tl b ++ (41 :: []))))) (by rw [e, lq_17]; rfl) (by decide +kernel)
  have hnf : 10 ∉ tl (("call " : Str) ++ a ++ ("(" : Str) ++ b ++ (")" : Str)) := by rw [e]; simp [fa, fb]
  have hle : (("call " : Str) ++ a ++ ("(" : Str) ++ b ++ (")" : Str)).length ≤ 200 := by simp only [len_app', lz_17, lz_18, lz_19, ]; omega
  have hfm := fm_call na.wd nb.wd  e
  have hsh : Shw (.tuple [.str "call", .none, .tuple [.str "name", .str a], .tuple [.tuple [.tuple [.str "name", .str b]]]]) := ⟨_, _, (Sh.tup (.cons (Sh.lit (by decide +kernel) (by decide +kernel)) (.cons Sh.none (.cons (Sh.tup (.cons (Sh.lit (by decide +kernel) (by decide +kernel)) (.cons (Sh.word na) .nil))) (.cons (Sh.tup (.cons (Sh.tup (.cons (Sh.tup (.cons (Sh.lit (by decide +kernel) (by decide +kernel)) (.cons (Sh.word nb) .nil))) .nil)) .nil)) .nil))))), by decide, by decide⟩
  have hrd : pWhole pStmt (tl (("call " : Str) ++ a ++ ("(" : Str) ++ b ++ (")" : Str))) = if (isN a && isN b) = true then some (.tuple [.str "call", .none, .tuple [.str "name", .str a], .tuple [.tuple [.tuple [.str "name", .str b]]]]) else none := by
    rw [hfm]
  exact ⟨⟨hln, hnf, hle, hrd, hsh, .inl ⟨_, _, rfl, by decide +kernel, by decide +kernel⟩⟩, ⟨_, _, rfl, by decide +kernel, by decide +kernel⟩⟩
theorem LP_letcall {a b c : Str} (na : Near a) (nb : Near b) (nc : Near c)  : RowP (("let " : Str) ++ a ++ (" = call " : Str) ++ b ++ ("[" : Str) ++ c ++ ("]()" : Str)) (.tuple [.str "call", .str a, .tuple [.str "table", .str b, .tuple [.tuple [.str "name", .str c]]], .tuple []]) (isN a && (isN b && isN c)) := by
  have e : tl (("let " : Str) ++ a ++ (" = call " : Str) ++ b ++ ("[" : Str) ++ c ++ ("]()" : Str)) = (108 :: 101 :: 116 :: 32 :: (tl a ++ (32 :: 61 :: 32 :: 99 :: 97 :: 108 :: 108 :: 32 :: (tl b ++ (91 :: (tl c ++ (93 :: 40 :: 41 :: []))))))) := by simp [tl_append, lq_13, lq_20, lq_21, lq_22,  List.append_assoc]
  have fa := na.nf
  have la := na.len
  have fb := nb.nf
  have lb := nb.len
  have fc := nc.nf
  have lc := nc.len
  have hln : Ln (("let " : Str) ++ a ++ (" = call " : Str) ++ b ++ ("[" : Str) ++ c ++ ("]()" : Str)) := ln_lit (s := "let ") (r := (tl a ++ (32 :: 61 :: 32 :: 99 :: 97 :: 108 :: 108 :: 32 :: (tl b ++ (91 :: (tl c ++ (93 :: 40 :: 41 :: []))))))) (by rw [e, lq_13]; rfl) (by decide +kernel)
  have hnf : 10 ∉ tl (("let " : Str) ++ a ++ (" = call " : Str) ++ b ++ ("[" : Str) ++ c ++ ("]()" : Str)) := by rw [e]; simp [fa, fb, fc]
  have hle : (("let " : Str) ++ a ++ (" = call " : Str) ++ b ++ ("[" : Str) ++ c ++ ("]()" : Str)).length ≤ 200 := by simp only [len_app', lz_13, lz_20, lz_21, lz_22, ]; omega
  have hfm := fm_letcall na.wd nb.wd nc.wd  e
  have hsh : Shw (.tuple [.str "call", .str a, .tuple [.str "table", .str b, .tuple [.tuple [.str "name", .str c]]], .tuple []]) := ⟨_, _, (Sh.tup (.cons (Sh.lit (by decide +kernel) (by decide +kernel)) (.cons (Sh.word na) (.cons (Sh.tup (.cons (Sh.lit (by decide +kernel) (by decide +kernel)) (.cons (Sh.word nb) (.cons (Sh.tup (.cons (Sh.tup (.cons (Sh.lit (by decide +kernel) (by decide +kernel)) (.cons (Sh.word nc) .nil))) .nil)) .nil)))) (.cons (Sh.tup .nil) .nil))))), by decide, by decide⟩
  have hrd : pWhole pStmt (tl (("let " : Str) ++ a ++ (" = call " : Str) ++ b ++ ("[" : Str) ++ c ++ ("]()" : Str))) = if (isN a && (isN b && isN c)) = true then some (.tuple [.str "call", .str a, .tuple [.str "table", .str b, .tuple [.tuple [.str "name", .str c]]], .tuple []]) else none := by
    rw [hfm, Bool.and_assoc]
  exact ⟨⟨hln, hnf, hle, hrd, hsh, .inl ⟨_, _, rfl, by decide +kernel, by decide +kernel⟩⟩, ⟨_, _, rfl, by decide +kernel, by decide +kernel⟩⟩
theorem LP_word {a : Str} (na : Near a)  : RowP (a) (.tuple [.str "fail"]) (decide (a = "fail")) := by
  have e : tl (a) = (tl a ++ []) := by simp [tl_append,  List.append_assoc]
  have fa := na.nf
  have la := na.len
  have hln : Ln (a) := ln_word na.wd
  have hnf : 10 ∉ tl (a) := by rw [e]; simp [fa]
  have hle : (a).length ≤ 200 := by omega
  have hfm := fm_word na.wd  e
  have hsh : Shw (.tuple [.str "fail"]) := ⟨_, _, (Sh.tup (.cons (Sh.lit (by decide +kernel) (by decide +kernel)) .nil)), by decide, by decide⟩
  have hrd : pWhole pStmt (tl (a)) = if (decide (a = "fail")) = true then some (.tuple [.str "fail"]) else none := by
    rw [hfm]
    simp
  exact ⟨⟨hln, hnf, hle, hrd, hsh, .inl ⟨_, _, rfl, by decide +kernel, by decide +kernel⟩⟩, ⟨_, _, rfl, by decide +kernel, by decide +kernel⟩⟩
theorem LP_built {a b : Str} (na : Near a) (nb : Near b)  : RowP (("call [" : Str) ++ a ++ (" + \"" : Str) ++ b ++ ("\"]()" : Str)) (.tuple [.str "call", .none, .tuple [.str "built", .tuple [.tuple [.str "name", .str a], .tuple [.str "text", .str b]]], .tuple []]) (isN a && decide (((b.length : Nat) : Int) < 9)) := by
  have e : tl (("call [" : Str) ++ a ++ (" + \"" : Str) ++ b ++ ("\"]()" : Str)) = (99 :: 97 :: 108 :: 108 :: 32 :: 91 :: (tl a ++ (32 :: 43 :: 32 :: 34 :: (tl b ++ (34 :: 93 :: 40 :: 41 :: []))))) := by simp [tl_append, lq_23, lq_16, lq_24,  List.append_assoc]
  have fa := na.nf
  have la := na.len
  have fb := nb.nf
  have lb := nb.len
  have hln : Ln (("call [" : Str) ++ a ++ (" + \"" : Str) ++ b ++ ("\"]()" : Str)) := ln_lit (s := "call [") (r := (tl a ++ (32 :: 43 :: 32 :: 34 :: (tl b ++ (34 :: 93 :: 40 :: 41 :: []))))) (by rw [e, lq_23]; rfl) (by decide +kernel)
  have hnf : 10 ∉ tl (("call [" : Str) ++ a ++ (" + \"" : Str) ++ b ++ ("\"]()" : Str)) := by rw [e]; simp [fa, fb]
  have hle : (("call [" : Str) ++ a ++ (" + \"" : Str) ++ b ++ ("\"]()" : Str)).length ≤ 200 := by simp only [len_app', lz_23, lz_16, lz_24, ]; omega
  have hfm := fm_built na.wd nb.wd  e
  have hsh : Shw (.tuple [.str "call", .none, .tuple [.str "built", .tuple [.tuple [.str "name", .str a], .tuple [.str "text", .str b]]], .tuple []]) := ⟨_, _, (Sh.tup (.cons (Sh.lit (by decide +kernel) (by decide +kernel)) (.cons Sh.none (.cons (Sh.tup (.cons (Sh.lit (by decide +kernel) (by decide +kernel)) (.cons (Sh.tup (.cons (Sh.tup (.cons (Sh.lit (by decide +kernel) (by decide +kernel)) (.cons (Sh.word na) .nil))) (.cons (Sh.tup (.cons (Sh.lit (by decide +kernel) (by decide +kernel)) (.cons (Sh.word nb) .nil))) .nil))) .nil))) (.cons (Sh.tup .nil) .nil))))), by decide, by decide⟩
  have hrd : pWhole pStmt (tl (("call [" : Str) ++ a ++ (" + \"" : Str) ++ b ++ ("\"]()" : Str))) = if (isN a && decide (((b.length : Nat) : Int) < 9)) = true then some (.tuple [.str "call", .none, .tuple [.str "built", .tuple [.tuple [.str "name", .str a], .tuple [.str "text", .str b]]], .tuple []]) else none := by
    rw [hfm, lt9]
  exact ⟨⟨hln, hnf, hle, hrd, hsh, .inl ⟨_, _, rfl, by decide +kernel, by decide +kernel⟩⟩, ⟨_, _, rfl, by decide +kernel, by decide +kernel⟩⟩
theorem LP_if {a b : Str} (na : Near a) (nb : Near b)  : BlkP (("if " : Str) ++ a ++ (" == \"" : Str) ++ b ++ ("\":" : Str)) (.tuple [.str "if", .tuple [.tuple [.str "name", .str a]], .str b, .tuple [.tuple [.str "fail"]], .tuple []]) (isN a && decide (((b.length : Nat) : Int) < 9)) := by
  have e : tl (("if " : Str) ++ a ++ (" == \"" : Str) ++ b ++ ("\":" : Str)) = (105 :: 102 :: 32 :: (tl a ++ (32 :: 61 :: 61 :: 32 :: 34 :: (tl b ++ (34 :: 58 :: []))))) := by simp [tl_append, lq_25, lq_26, lq_27,  List.append_assoc]
  have fa := na.nf
  have la := na.len
  have fb := nb.nf
  have lb := nb.len
  have hln : Ln (("if " : Str) ++ a ++ (" == \"" : Str) ++ b ++ ("\":" : Str)) := ln_lit (s := "if ") (r := (tl a ++ (32 :: 61 :: 61 :: 32 :: 34 :: (tl b ++ (34 :: 58 :: []))))) (by rw [e, lq_25]; rfl) (by decide +kernel)
  have hnf : 10 ∉ tl (("if " : Str) ++ a ++ (" == \"" : Str) ++ b ++ ("\":" : Str)) := by rw [e]; simp [fa, fb]
  have hle : (("if " : Str) ++ a ++ (" == \"" : Str) ++ b ++ ("\":" : Str)).length ≤ 200 := by simp only [len_app', lz_25, lz_26, lz_27, ]; omega
  have hfm := fm_if na.wd nb.wd  e
  have hsh : Shw (.tuple [.str "if", .tuple [.tuple [.str "name", .str a]], .str b, .tuple [.tuple [.str "fail"]], .tuple []]) := ⟨_, _, (Sh.tup (.cons (Sh.lit (by decide +kernel) (by decide +kernel)) (.cons (Sh.tup (.cons (Sh.tup (.cons (Sh.lit (by decide +kernel) (by decide +kernel)) (.cons (Sh.word na) .nil))) .nil)) (.cons (Sh.word nb) (.cons (Sh.tup (.cons (Sh.tup (.cons (Sh.lit (by decide +kernel) (by decide +kernel)) .nil)) .nil)) (.cons (Sh.tup .nil) .nil)))))), by decide, by decide⟩
  have hrd : pWhole pStmt (tl (("if " : Str) ++ a ++ (" == \"" : Str) ++ b ++ ("\":" : Str))) = if (isN a && decide (((b.length : Nat) : Int) < 9)) = true then some (.tuple [.str "if", .tuple [.tuple [.str "name", .str a]], .str b]) else none := by
    rw [hfm, lt9]
  exact ⟨hln, hnf, hle, ⟨_, _, hrd, by decide +kernel, by decide +kernel, by decide +kernel, rfl⟩, hsh⟩
theorem LP_there {a : Str} (na : Near a)  : BlkP (("if there [" : Str) ++ a ++ ("]:" : Str)) (.tuple [.str "there", .tuple [.tuple [.str "name", .str a]], .tuple [.tuple [.str "fail"]], .tuple []]) (isN a) := by
  have e : tl (("if there [" : Str) ++ a ++ ("]:" : Str)) = (105 :: 102 :: 32 :: 116 :: 104 :: 101 :: 114 :: 101 :: 32 :: 91 :: (tl a ++ (93 :: 58 :: []))) := by simp [tl_append, lq_28, lq_29,  List.append_assoc]
  have fa := na.nf
  have la := na.len
  have hln : Ln (("if there [" : Str) ++ a ++ ("]:" : Str)) := ln_lit (s := "if there [") (r := (tl a ++ (93 :: 58 :: []))) (by rw [e, lq_28]; rfl) (by decide +kernel)
  have hnf : 10 ∉ tl (("if there [" : Str) ++ a ++ ("]:" : Str)) := by rw [e]; simp [fa]
  have hle : (("if there [" : Str) ++ a ++ ("]:" : Str)).length ≤ 200 := by simp only [len_app', lz_28, lz_29, ]; omega
  have hfm := fm_there na.wd  e
  have hsh : Shw (.tuple [.str "there", .tuple [.tuple [.str "name", .str a]], .tuple [.tuple [.str "fail"]], .tuple []]) := ⟨_, _, (Sh.tup (.cons (Sh.lit (by decide +kernel) (by decide +kernel)) (.cons (Sh.tup (.cons (Sh.tup (.cons (Sh.lit (by decide +kernel) (by decide +kernel)) (.cons (Sh.word na) .nil))) .nil)) (.cons (Sh.tup (.cons (Sh.tup (.cons (Sh.lit (by decide +kernel) (by decide +kernel)) .nil)) .nil)) (.cons (Sh.tup .nil) .nil))))), by decide, by decide⟩
  have hrd : pWhole pStmt (tl (("if there [" : Str) ++ a ++ ("]:" : Str))) = if (isN a) = true then some (.tuple [.str "there", .tuple [.tuple [.str "name", .str a]]]) else none := by
    rw [hfm]
  exact ⟨hln, hnf, hle, ⟨_, _, hrd, by decide +kernel, by decide +kernel, by decide +kernel, rfl⟩, hsh⟩
theorem LP_each {a b : Str} (na : Near a) (nb : Near b)  : BlkP (("each " : Str) ++ a ++ (" in \"" : Str) ++ b ++ ("\":" : Str)) (.tuple [.str "each", .str a, .str b, .tuple [.tuple [.str "fail"]]]) (isN a && decide (((b.length : Nat) : Int) < 9)) := by
  have e : tl (("each " : Str) ++ a ++ (" in \"" : Str) ++ b ++ ("\":" : Str)) = (101 :: 97 :: 99 :: 104 :: 32 :: (tl a ++ (32 :: 105 :: 110 :: 32 :: 34 :: (tl b ++ (34 :: 58 :: []))))) := by simp [tl_append, lq_30, lq_31, lq_27,  List.append_assoc]
  have fa := na.nf
  have la := na.len
  have fb := nb.nf
  have lb := nb.len
  have hln : Ln (("each " : Str) ++ a ++ (" in \"" : Str) ++ b ++ ("\":" : Str)) := ln_lit (s := "each ") (r := (tl a ++ (32 :: 105 :: 110 :: 32 :: 34 :: (tl b ++ (34 :: 58 :: []))))) (by rw [e, lq_30]; rfl) (by decide +kernel)
  have hnf : 10 ∉ tl (("each " : Str) ++ a ++ (" in \"" : Str) ++ b ++ ("\":" : Str)) := by rw [e]; simp [fa, fb]
  have hle : (("each " : Str) ++ a ++ (" in \"" : Str) ++ b ++ ("\":" : Str)).length ≤ 200 := by simp only [len_app', lz_30, lz_31, lz_27, ]; omega
  have hfm := fm_each na.wd nb.wd  e
  have hsh : Shw (.tuple [.str "each", .str a, .str b, .tuple [.tuple [.str "fail"]]]) := ⟨_, _, (Sh.tup (.cons (Sh.lit (by decide +kernel) (by decide +kernel)) (.cons (Sh.word na) (.cons (Sh.word nb) (.cons (Sh.tup (.cons (Sh.tup (.cons (Sh.lit (by decide +kernel) (by decide +kernel)) .nil)) .nil)) .nil))))), by decide, by decide⟩
  have hrd : pWhole pStmt (tl (("each " : Str) ++ a ++ (" in \"" : Str) ++ b ++ ("\":" : Str))) = if (isN a && decide (((b.length : Nat) : Int) < 9)) = true then some (.tuple [.str "each", .str a, .str b]) else none := by
    rw [hfm, lt9]
  exact ⟨hln, hnf, hle, ⟨_, _, hrd, by decide +kernel, by decide +kernel, by decide +kernel, rfl⟩, hsh⟩
end Sn

/-! ## law_k13: the drawn words -/
namespace Sn
open PySem PySem.Spec PyProof.Rows L2 TL
theorem resv6 : ∀ w ∈ resv, w.length ≤ 6 := by decide +kernel
section
variable {P : Program} {w : World} {K : PySem.W.Frag} {mg : Str → Option Value} {base : Heap}
theorem Tr.notRes {σ : L2.St} {H : Hp} {ta : TE} {z : Str} (h : Tr ta σ H (.str z)) : Tr (tOp (rIn K true) ta (tCall spRes [] E0 tNil)) σ H (.bool (!decide (z ∈ resv))) := fun H1 s Q k =>
  h H1 s _ fun v H2 s2 hv => ⟨rfl, fun p hp => by
    rw [hv.isS]
    exact notin_strs (.inl (SqL.at upd_same)) (k _ _ (s2.trans (same_new hp)) (.bl _))⟩
def spNear : Sp := fun vs H Q _ => ∃ (d g c : Addr) (m : Nat), vs = [.ref d] ∧ Dr H d g c m ∧ m + 2 ≤ 1000000000 ∧
  ∀ (a : Str) (v : V) (H' : Hp), Near a → Dr H' d g c (m + 2) → Mv d g H H' → St1 H' v (.tuple [.str a, .bool (isN a)]) → Q v H'
theorem ok_near (T : Txt K mg) : FnOk P w K mg base CX0 4 T.f_law_near T.fd_law_near ["_law_state"] spNear := by
  have GP : FnOk P w K mg base CX0 3 T.f_law_pick T.fd_law_pick ["_law_state", "_law_some"] spPick := ok_pick T
  have GR : FnOk P w K mg base CX0 1 T.f_law_reserved T.fd_law_reserved [] spRes := ok_reserved T
  refine T.F_law_near.ok sc_law_near (fun vs H Q E h => ?_) (fun cdv A outer s H vs Q E hr h => ?_)
  · obtain ⟨d, g, c, m, rfl, _⟩ := h
    rfl
  · obtain ⟨d, g, c, m, rfl, D, hm, k⟩ := h
    refine ⟨_, (pss_cons (ps_set (i := 1) sc_law_near.nd rfl (Or.inl rfl) (pe_call (ok_pick T) (hr.mono (by decide)) rfl T.g_law_pick T.F_law_pick.kp T.b_law_pick .nil pass0 (pa_cons (pv 0) (pa_cons (pe_call0 (ok_reserved T) (hr.mono (by decide)) rfl T.g_law_reserved T.F_law_reserved.kp T.b_law_reserved .nil pass0) pa_nil))))
      (pss_cons (ps_set (i := 2) sc_law_near.nd rfl (Or.inl rfl) (pe_lst (pa_cons (pv 1) (pa_cons (pe_op op_add_str (pv 1) pe_str) (pa_cons (pe_slice sl_str (pe_op op_add_str (pv 1) pe_str) po_none (po_some pe_int)) (pa_cons (pe_op op_add_str (pv 1) pe_str) (pa_cons (pe_slice sl_str (pe_op op_add_str (pv 1) (pv 1)) po_none (po_some pe_int)) (pa_cons (pe_op op_add_str (pe_slice sl_str (pv 1) po_none (po_some pe_int)) pe_str) (pa_cons (pe_slice sl_str (pe_op op_add_str (pv 1) pe_str) po_none (po_some pe_int)) pa_nil)))))))))
      (pss_cons (ps_set (i := 3) sc_law_near.nd rfl (Or.inl rfl) (pe_call (ok_pick T) (hr.mono (by decide)) rfl T.g_law_pick T.F_law_pick.kp T.b_law_pick .nil pass0 (pa_cons (pv 0) (pa_cons (pe_op op_cat (pv 2) (pe_lst (pa_cons pe_str (pa_cons (pe_op op_add_str (pv 1) pe_str) pa_nil)))) pa_nil))))
      (pss_one (ps_ret (pe_tup (pa_cons (pv 3) (pa_cons (pe_and (pe_cmpR (op_notIn_seqK (K := K)) (pv 3) (pe_call0 (ok_reserved T) (hr.mono (by decide)) rfl T.g_law_reserved T.F_law_reserved.kp T.b_law_reserved .nil pass0) (by rfl)) (pe_one (pe_cmpR op_lt (pe_callB (call_lenN (K := K)) (by rfl) T.z_len (by decide +kernel) (pa_cons (pv 3) pa_nil)) pe_int (nomark _)))) pa_nil)))))))), ?_⟩
    refine ⟨_, rfl, rfl, fun p hp => ?_⟩
    obtain ⟨np1, np2, np3⟩ := dr_new D hp
    have s1 := same_new (o := .lst (resv.map V.str)) hp
    refine ⟨d, g, c, m, D.same s1, by omega, .inr ⟨p, _, rfl, upd_same, np2, by decide +kernel, by decide +kernel, fun x H1 hx D1 mv1 => ?_⟩⟩
    obtain ⟨wd, hw, rfl⟩ := List.mem_map.mp hx
    have lw := resv6 wd hw
    refine asg_lst (ds := (nearL wd).map PyData.str) (.cons (Tr.var rfl (.str _)) (.cons (TrS.cat (TrS.var rfl lw) (TrS.lit (by decide +kernel))).tr (.cons (TrS.cut (TrS.cat (TrS.var rfl lw) (TrS.lit (by decide +kernel)))).tr (.cons (TrS.cat (TrS.var rfl lw) (TrS.lit (by decide +kernel))).tr (.cons (TrS.cut (TrS.cat (TrS.var rfl lw) (TrS.var rfl lw))).tr (.cons (TrS.cat (TrS.cut (TrS.var rfl lw)) (TrS.lit (by decide +kernel))).tr (.cons (TrS.cut (TrS.cat (TrS.var rfl lw) (TrS.lit (by decide +kernel)))).tr .nil))))))) (by show 7 ≤ 1000; decide) fun vs H2 q s2 hvs hq => ?_
    have ev := hvs.strs
    subst ev
    have D2 := D1.same (s2.trans (same_new (o := .lst ((nearL wd).map V.str)) hq))
    refine ⟨_, rfl, _, rfl, ?_⟩
    refine lst_tr (ds := ([("a" : Str), wd ++ "x"]).map PyData.str) (.cons Tr.str (.cons (TrS.cat (TrS.var rfl lw) (TrS.lit (by decide +kernel))).tr .nil)) (by show 2 ≤ 1000; decide) fun vs H3 r s3 hvs3 hr3 => ?_
    have ev := hvs3.strs
    subst ev
    have nqr : q ≠ r := fun e => by
      have := s3 _ _ (upd_same (H := H2) (a := q) (o := .lst ((nearL wd).map V.str)))
      rw [e, hr3] at this
      cases this
    have s4 := same_new (o := .lst (([("a" : Str), wd ++ "x"]).map V.str)) hr3
    refine ⟨q, r, _, _, rfl, rfl, s4 _ _ (s3 _ _ upd_same), upd_same, Nat.le_of_lt (small1000 (by show 9 ≤ 1000; decide)), fun u hu => ?_⟩
    rw [← List.map_append]
    have s5 := same_new (o := .lst ((nearL wd ++ [("a" : Str), wd ++ "x"]).map V.str)) hu
    have D3 := (D2.same (s3.trans s4))
    obtain ⟨nu1, nu2, nu3⟩ := dr_new D3 hu
    refine ⟨d, g, c, m + 1, D3.same s5, by omega, .inr ⟨u, _, rfl, upd_same, nu2, by rw [List.length_map]; show 0 < 9; decide, by rw [List.length_map]; show 9 ≤ 1000; decide, fun x H4 hx4 D4 mv4 => ?_⟩⟩
    obtain ⟨a, ha, rfl⟩ := List.mem_map.mp hx4
    have na := near_of hw ha
    have la := na.len
    refine ret_tr (Tr.tup (.cons (Tr.var rfl (.str _)) (.cons (Tr.andV (Tr.notRes (Tr.var rfl (.str _))) (Tr.opB (Tr.lenS (Tr.var rfl (.str _)) (by omega)) Tr.int)) .nil))) fun v H5 s6 hv => ?_
    refine k a v H5 na (D4.same s6) ?_ ?_
    · exact (((Mv.same s1).trans mv1).trans ((Mv.same (s2.trans (same_new hq))).trans (Mv.same (s3.trans (s4.trans s5))))).trans (mv4.trans (Mv.same s6))
    · rw [na.good]
      have : decide (a.length < 9) = decide (((a.length : Nat) : Int) < 9) := decide_eq_decide.mpr (by omega)
      rw [this]
      exact hv
end
end Sn

/-! ## law_k13: the drawn lines -/
namespace Sn
open PySem PySem.Spec PyProof.Rows L2 TL
section
variable {P : Program} {w : World} {K : PySem.W.Frag} {mg : Str → Option Value} {base : Heap}
def spLine (R : Str → PyData → Bool → Prop) : Sp := fun vs H Q _ => ∃ (d g c : Addr) (m : Nat), vs = [.ref d] ∧ Dr H d g c m ∧ m + 8 ≤ 1000000000 ∧
  ∀ (z : Str) (dd : PyData) (b : Bool) (v : V) (H' : Hp), R z dd b → Dr H' d g c (m + 8) → Mv d g H H' → St1 H' v (.tuple [.str z, dd, .bool b]) → Q v H'
theorem ok_items (T : Txt K mg) : FnOk P w K mg base CX0 5 T.f_law_item_line T.fd_law_item_line ["_law_state"] (spLine (LineP pItem)) := by
  have GN : FnOk P w K mg base CX0 4 T.f_law_near T.fd_law_near ["_law_state"] spNear := ok_near T
  have GT : FnOk P w K mg base CX0 2 T.f_law_take T.fd_law_take ["_law_state", "_law_size"] spTake := ok_take T
  refine T.F_law_item_line.ok sc_law_item_line (fun vs H Q E h => ?_) (fun cdv A outer s H vs Q E hr h => ?_)
  · obtain ⟨d, g, c, m, rfl, _⟩ := h
    rfl
  · obtain ⟨d, g, c, m, rfl, D, hm, k⟩ := h
    refine ⟨_, (pss_cons (ps_set (i := 1) sc_law_item_line.nd rfl (Or.inl rfl) (pe_call (ok_take T) (hr.mono (by decide)) rfl T.g_law_take T.F_law_take.kp T.b_law_take .nil pass0 (pa_cons (pv 0) (pa_cons pe_int pa_nil))))
      (pss_cons (ps_par3 (i := 2) (j := 3) (l := 4) (by rfl) sc_law_item_line.nd rfl rfl rfl (by decide) (by decide) (by decide) rfl rfl rfl (pa_cons (pe_call (ok_near T) (hr.mono (by decide)) rfl T.g_law_near T.F_law_near.kp T.b_law_near .nil pass0 (pa_cons (pv 0) pa_nil)) (pa_cons (pe_call (ok_near T) (hr.mono (by decide)) rfl T.g_law_near T.F_law_near.kp T.b_law_near .nil pass0 (pa_cons (pv 0) pa_nil)) (pa_cons (pe_call (ok_near T) (hr.mono (by decide)) rfl T.g_law_near T.F_law_near.kp T.b_law_near .nil pass0 (pa_cons (pv 0) pa_nil)) pa_nil))) (by rfl))
      (pss_cons (ps_par3 (i := 5) (j := 6) (l := 7) (by rfl) sc_law_item_line.nd rfl rfl rfl (by decide) (by decide) (by decide) rfl rfl rfl (pa_cons (pe_ix (ix_tupK (K := K)) (pv 2) pe_int (fun _ _ => rfl)) (pa_cons (pe_ix (ix_tupK (K := K)) (pv 3) pe_int (fun _ _ => rfl)) (pa_cons (pe_ix (ix_tupK (K := K)) (pv 4) pe_int (fun _ _ => rfl)) pa_nil))) (by rfl))
      (pss_cons (ps_if (pt_cmpR op_eq (pv 1) pe_int (nomark _))
        (pss_one (ps_ret (pe_tup (pa_cons (pe_op op_add_str pe_str (pv 5)) (pa_cons (pe_tup (pa_cons pe_str (pa_cons (pv 5) pa_nil))) (pa_cons (pe_ix (ix_tupK (K := K)) (pv 2) pe_int (fun _ _ => rfl)) pa_nil))))))
        pss_nil)
      (pss_cons (ps_if (pt_cmpR op_eq (pv 1) pe_int (nomark _))
        (pss_one (ps_ret (pe_tup (pa_cons (pe_op op_add_str (pe_op op_add_str pe_str (pv 5)) pe_str) (pa_cons (pe_tup (pa_cons pe_str (pa_cons (pv 5) pa_nil))) (pa_cons (pe_ix (ix_tupK (K := K)) (pv 2) pe_int (fun _ _ => rfl)) pa_nil))))))
        pss_nil)
      (pss_cons (ps_if (pt_cmpR op_eq (pv 1) pe_int (nomark _))
        (pss_cons (ps_set (i := 7) sc_law_item_line.nd rfl (Or.inl rfl) (pe_ifExp (pt_cmpR op_eq (pe_call (ok_take T) (hr.mono (by decide)) rfl T.g_law_take T.F_law_take.kp T.b_law_take .nil pass0 (pa_cons (pv 0) (pa_cons pe_int pa_nil))) pe_int (nomark _)) (pv 6) (pv 7)))
      (pss_cons (ps_set (i := 8) sc_law_item_line.nd rfl (Or.inl rfl) (pe_and (pe_ix (ix_tupK (K := K)) (pv 2) pe_int (fun _ _ => rfl)) (pe_and (pe_ix (ix_tupK (K := K)) (pv 3) pe_int (fun _ _ => rfl)) (pe_and (pe_ix (ix_tupK (K := K)) (pv 4) pe_int (fun _ _ => rfl)) (pe_one (pe_cmpR op_ne (pv 6) (pv 7) (nomark _)))))))
      (pss_one (ps_ret (pe_tup (pa_cons (pe_op op_add_str (pe_op op_add_str (pe_op op_add_str (pe_op op_add_str (pe_op op_add_str pe_str (pv 5)) pe_str) (pv 6)) pe_str) (pv 7)) (pa_cons (pe_tup (pa_cons pe_str (pa_cons (pv 7) (pa_cons (pv 5) (pa_cons (pv 6) pa_nil))))) (pa_cons (pv 8) pa_nil))))))))
        pss_nil)
      (pss_cons (ps_if (PW.pt (pw_and (pt_cmpR op_eq (pv 1) pe_int (nomark _)) (pw_and1 (pt_cmpR op_ne (pv 5) (pv 6) (nomark _)))))
        (pss_one (ps_ret (pe_tup (pa_cons (pe_op op_add_str (pe_op op_add_str (pe_op op_add_str pe_str (pv 5)) pe_str) (pv 6)) (pa_cons (pe_tup (pa_cons pe_str (pa_cons (pe_tup (pa_cons (pv 5) (pa_cons (pv 6) pa_nil))) pa_nil))) (pa_cons (pe_and (pe_ix (ix_tupK (K := K)) (pv 2) pe_int (fun _ _ => rfl)) (pe_one (pe_ix (ix_tupK (K := K)) (pv 3) pe_int (fun _ _ => rfl)))) pa_nil))))))
        pss_nil)
      (pss_cons (ps_if (pt_cmpR op_eq (pv 1) pe_int (nomark _))
        (pss_one (ps_ret (pe_tup (pa_cons (pe_op op_add_str (pe_op op_add_str (pe_op op_add_str (pe_op op_add_str pe_str (pv 5)) pe_str) (pv 6)) pe_str) (pa_cons (pe_tup (pa_cons pe_str (pa_cons (pv 5) (pa_cons (pv 6) pa_nil)))) (pa_cons (pe_and (pe_ix (ix_tupK (K := K)) (pv 2) pe_int (fun _ _ => rfl)) (pe_one (pe_cmpR op_lt (pe_callB (call_lenN (K := K)) (by rfl) T.z_len (by decide +kernel) (pa_cons (pv 6) pa_nil)) pe_int (nomark _)))) pa_nil))))))
        pss_nil)
      (pss_cons (ps_if (pt_cmpR op_eq (pv 6) (pv 7) (nomark _))
        (pss_one (ps_ret (pe_tup (pa_cons (pe_op op_add_str (pe_op op_add_str (pe_op op_add_str pe_str (pv 5)) pe_str) (pv 6)) (pa_cons (pe_tup (pa_cons pe_str (pa_cons (pv 6) (pa_cons (pv 5) (pa_cons (pv 6) pa_nil))))) (pa_cons (pe_and (pe_ix (ix_tupK (K := K)) (pv 2) pe_int (fun _ _ => rfl)) (pe_one (pe_ix (ix_tupK (K := K)) (pv 3) pe_int (fun _ _ => rfl)))) pa_nil))))))
        pss_nil)
      (pss_cons (ps_set (i := 9) sc_law_item_line.nd rfl (Or.inl rfl) (pe_tup (pa_cons pe_str (pa_cons (pv 5) (pa_cons (pe_tup (pa_cons (pe_tup (pa_cons (pv 6) (pa_cons (pv 5) pa_nil))) (pa_cons (pe_tup (pa_cons (pv 7) (pa_cons (pv 5) pa_nil))) pa_nil))) pa_nil)))))
      (pss_one (ps_ret (pe_tup (pa_cons (pe_op op_add_str (pe_op op_add_str (pe_op op_add_str (pe_op op_add_str (pe_op op_add_str (pe_op op_add_str (pe_op op_add_str (pe_op op_add_str (pe_op op_add_str pe_str (pv 5)) pe_str) (pv 6)) pe_str) (pv 5)) pe_str) (pv 7)) pe_str) (pv 5)) (pa_cons (pv 9) (pa_cons (pe_and (pe_ix (ix_tupK (K := K)) (pv 2) pe_int (fun _ _ => rfl)) (pe_one (pe_cmpR op_lt (pe_callB (call_max2 rfl) (by rfl) T.z_max (by decide +kernel) (pa_cons (pe_callB (call_lenN (K := K)) (by rfl) T.z_len (by decide +kernel) (pa_cons (pv 6) pa_nil)) (pa_cons (pe_callB (call_lenN (K := K)) (by rfl) T.z_len (by decide +kernel) (pa_cons (pv 7) pa_nil)) pa_nil))) pe_int (nomark _)))) pa_nil)))))))))))))))), ?_⟩
    refine ⟨_, rfl, d, g, c, m, 6, rfl, D, by omega, by decide, by decide, fun way H0 w0 w6 D0 mv0 => ?_⟩
    refine ⟨_, rfl, d, g, c, m + 1, rfl, D0, by omega, fun a v1 H1 na D1 mv1 h1 => ?_⟩
    refine ⟨_, rfl, d, g, c, m + 3, rfl, D1, by omega, fun b v2 H2 nb D2 mv2 h2 => ?_⟩
    refine ⟨_, rfl, d, g, c, m + 5, rfl, D2, by omega, fun e v3 H3 ne D3 mv3 h3 => ?_⟩
    have h1 := h1.mv ((MvT.mv D1 mv2).trans (MvT.mv D2 mv3))
    have h2 := h2.mv (MvT.mv D2 mv3)
    have M3 := mv0.trans (mv1.trans (mv2.trans mv3))
    refine ⟨_, _, _, rfl, ?_⟩
    refine par3_tr (d1 := .str a) (d2 := .str b) (d3 := .str e) (.cons (Tr.ix 0 (Tr.var rfl h1) rfl) (.cons (Tr.ix 0 (Tr.var rfl h2) rfl) (.cons (Tr.ix 0 (Tr.var rfl h3) rfl) .nil))) fun u1 u2 u3 H4 s4 e1 e2 e3 => ?_
    rw [e1.isS, e2.isS, e3.isS]
    have h1 := h1.mv (MvT.same s4)
    have h2 := h2.mv (MvT.same s4)
    have h3 := h3.mv (MvT.same s4)
    have D4 := D3.same s4
    have M4 := M3.trans (Mv.same s4)
    have la := na.len
    have lb := nb.len
    have le := ne.len
    have fin : ∀ (z : Str) (dd : PyData) (bb : Bool) (v : V) (H' : Hp), LineP pItem z dd bb → Dr H' d g c (m + 7) → Mv d g H H' → St1 H' v (.tuple [.str z, dd, .bool bb]) → Q v H' := fun z dd bb v H' hl D' M' hv => k z dd bb v H' hl (D'.mono (by omega)) M' hv
    refine if_tr (TrT.test (Tr.eqI (Tr.var rfl (.int way)) Tr.int)) (fun _ H5 s5 => ?_) (fun hw0 H5 s5 => ?_)
    · refine ret_tr (Tr.tup (.cons (TrS.cat (TrS.lit (by decide +kernel)) (TrS.var rfl la)).tr (.cons (Tr.tup (.cons Tr.str (.cons (Tr.var rfl (.str _)) .nil))) (.cons (Tr.ix 1 (Tr.var rfl (h1.mv (MvT.same s5))) rfl) .nil)))) fun v H6 s6 hv => fin _ _ _ v H6 (LP_entry na) (D4.same (s5.trans s6)) (M4.trans (Mv.same (s5.trans s6))) hv
    refine if_tr (TrT.test (Tr.eqI (Tr.var rfl (.int way)) Tr.int)) (fun _ H6 s6 => ?_) (fun hw1 H6 s6 => ?_)
    · refine ret_tr (Tr.tup (.cons (TrS.cat (TrS.cat (TrS.lit (by decide +kernel)) (TrS.var rfl la)) (TrS.lit (by decide +kernel))).tr (.cons (Tr.tup (.cons Tr.str (.cons (Tr.var rfl (.str _)) .nil))) (.cons (Tr.ix 1 (Tr.var rfl (h1.mv (MvT.same (s5.trans s6)))) rfl) .nil)))) fun v H7 s7 hv => fin _ _ _ v H7 (LP_star na) (D4.same ((s5.trans s6).trans s7)) (M4.trans (Mv.same ((s5.trans s6).trans s7))) hv
    have s6 := s5.trans s6
    have D6 := D4.same s6
    have M6 := M4.trans (Mv.same s6)
    have h1 := h1.mv (MvT.same s6)
    have h2 := h2.mv (MvT.same s6)
    have h3 := h3.mv (MvT.same s6)
    refine if_tr (TrT.test (Tr.eqI (Tr.var rfl (.int way)) Tr.int)) (fun _ H7 s7 => ?_) (fun hw2 H7 s7 => ?_)
    · refine ⟨_, rfl, d, g, c, m + 7, 4, rfl, D6.same s7, by omega, by decide, by decide, fun r H8 r0 r4 D8 mv8 => ?_⟩
      have T8 := (MvT.same s7).trans (MvT.mv (D6.same s7) mv8)
      have h1 := h1.mv T8
      have h2 := h2.mv T8
      have h3 := h3.mv T8
      have M8 := (M6.trans (Mv.same s7)).trans mv8
      refine ⟨rfl, _, rfl, ?_⟩
      have key : ∀ e' : Str, Near e' → (isN e = isN e' ∨ b = e') → tSeq (tAsg (tAndV (tOp (rIxT K) (tVar 2) (tC (.int 1))) (tAndV (tOp (rIxT K) (tVar 3) (tC (.int 1))) (tAndV (tOp (rIxT K) (tVar 4) (tC (.int 1))) (tOp rNe (tVar 6) (tVar 7))))) (gName 8)) (tRet (tTup (tCons (tOp (fun x y H Q => ∃ i j, x = .str i ∧ y = .str j ∧ i.length + j.length ≤ sizeLine ∧ Q (.str (i ++ j)) H) (tOp (fun x y H Q => ∃ i j, x = .str i ∧ y = .str j ∧ i.length + j.length ≤ sizeLine ∧ Q (.str (i ++ j)) H) (tOp (fun x y H Q => ∃ i j, x = .str i ∧ y = .str j ∧ i.length + j.length ≤ sizeLine ∧ Q (.str (i ++ j)) H) (tOp (fun x y H Q => ∃ i j, x = .str i ∧ y = .str j ∧ i.length + j.length ≤ sizeLine ∧ Q (.str (i ++ j)) H) (tOp (fun x y H Q => ∃ i j, x = .str i ∧ y = .str j ∧ i.length + j.length ≤ sizeLine ∧ Q (.str (i ++ j)) H) (tC (.str "use ")) (tVar 5)) (tC (.str "."))) (tVar 6)) (tC (.str " as "))) (tVar 7)) (tCons (tTup (tCons (tC (.str "use")) (tCons (tVar 7) (tCons (tVar 5) (tCons (tVar 6) tNil))))) (tCons (tVar 8) tNil)))))
          { nx := fun _ H' => Q .non H', rt := Q } [some (.ref d), some (.int way), some v1, some v2, some v3, some (.str a), some (.str b), some (.str e'), none, none] H8 := by
        intro e' ne' hq
        have le' := ne'.len
        refine asg_tr (Tr.andV (Tr.ix 1 (Tr.var rfl h1) rfl) (Tr.andV (Tr.ix 1 (Tr.var rfl h2) rfl) (Tr.andV (Tr.ix 1 (Tr.var rfl h3) rfl) (Tr.neS (Tr.var rfl (.str _)) (Tr.var rfl (.str _)))))) fun v H9 s9 hv => ?_
        refine ret_tr (Tr.tup (.cons (TrS.cat (TrS.cat (TrS.cat (TrS.cat (TrS.cat (TrS.lit (by decide +kernel)) (TrS.var rfl la)) (TrS.lit (by decide +kernel))) (TrS.var rfl lb)) (TrS.lit (by decide +kernel))) (TrS.var rfl le')).tr (.cons (Tr.tup (.cons Tr.str (.cons (Tr.var rfl (.str _)) (.cons (Tr.var rfl (.str _)) (.cons (Tr.var rfl (.str _)) .nil))))) (.cons (Tr.var rfl hv) .nil)))) fun u Hx sx hu => ?_
        exact k _ _ _ u Hx (LP_useas na nb ne' hq) (D8.same (s9.trans sx)) (M8.trans (Mv.same (s9.trans sx))) hu
      by_cases hr0 : r = 0
      · exact iteDT (by rw [hr0]; rfl) ⟨_, rfl, key b nb (.inr rfl)⟩
      · exact iteDF (decide_eq_false fun q => hr0 (by injection q)) ⟨_, rfl, key e ne (.inl rfl)⟩
    have D7 := D6.same s7
    have M7 := M6.trans (Mv.same s7)
    have h1 := h1.mv (MvT.same s7)
    have h2 := h2.mv (MvT.same s7)
    have h3 := h3.mv (MvT.same s7)
    refine if_tr (TrT.and (TrT.test (Tr.eqI (Tr.var rfl (.int way)) Tr.int)) (TrT.test (Tr.neS (Tr.var rfl (.str a)) (Tr.var rfl (.str b))))) (fun hab H8 s8 => ?_) (fun _ H8 s8 => ?_)
    · have ab : a ≠ b := by
        simp only [Bool.and_eq_true, Bool.not_eq_true', decide_eq_false_iff_not] at hab
        exact hab.2
      refine ret_tr (Tr.tup (.cons (TrS.cat (TrS.cat (TrS.cat (TrS.lit (by decide +kernel)) (TrS.var rfl la)) (TrS.lit (by decide +kernel))) (TrS.var rfl lb)).tr (.cons (Tr.tup (.cons Tr.str (.cons (Tr.tup (.cons (Tr.var rfl (.str _)) (.cons (Tr.var rfl (.str _)) .nil))) .nil))) (.cons (Tr.andV (Tr.ix 1 (Tr.var rfl (h1.mv (MvT.same s8))) rfl) (Tr.ix 1 (Tr.var rfl (h2.mv (MvT.same s8))) rfl)) .nil)))) fun v H9 s9 hv => fin _ _ _ v H9 (LP_offer na nb ab) (D7.same (s8.trans s9)) (M7.trans (Mv.same (s8.trans s9))) hv
    refine if_tr (TrT.test (Tr.eqI (Tr.var rfl (.int way)) Tr.int)) (fun _ H9 s9 => ?_) (fun _ H9 s9 => ?_)
    · refine ret_tr (Tr.tup (.cons (TrS.cat (TrS.cat (TrS.cat (TrS.cat (TrS.lit (by decide +kernel)) (TrS.var rfl la)) (TrS.lit (by decide +kernel))) (TrS.var rfl lb)) (TrS.lit (by decide +kernel))).tr (.cons (Tr.tup (.cons Tr.str (.cons (Tr.var rfl (.str _)) (.cons (Tr.var rfl (.str _)) .nil)))) (.cons (Tr.andV (Tr.ix 1 (Tr.var rfl (h1.mv (MvT.same (s8.trans s9)))) rfl) (Tr.opB (Tr.lenS (Tr.var rfl (.str _)) (by omega)) Tr.int)) .nil)))) fun v Hx sx hv => fin _ _ _ v Hx (LP_set na nb) (D7.same ((s8.trans s9).trans sx)) (M7.trans (Mv.same ((s8.trans s9).trans sx))) hv
    have s9 := s8.trans s9
    have D9 := D7.same s9
    have M9 := M7.trans (Mv.same s9)
    have h1 := h1.mv (MvT.same s9)
    have h2 := h2.mv (MvT.same s9)
    refine if_tr (TrT.test (Tr.eqS (Tr.var rfl (.str b)) (Tr.var rfl (.str e)))) (fun _ Hx sx => ?_) (fun hbe Hx sx => ?_)
    · refine ret_tr (Tr.tup (.cons (TrS.cat (TrS.cat (TrS.cat (TrS.lit (by decide +kernel)) (TrS.var rfl la)) (TrS.lit (by decide +kernel))) (TrS.var rfl lb)).tr (.cons (Tr.tup (.cons Tr.str (.cons (Tr.var rfl (.str _)) (.cons (Tr.var rfl (.str _)) (.cons (Tr.var rfl (.str _)) .nil))))) (.cons (Tr.andV (Tr.ix 1 (Tr.var rfl (h1.mv (MvT.same sx))) rfl) (Tr.ix 1 (Tr.var rfl (h2.mv (MvT.same sx))) rfl)) .nil)))) fun v Hy sy hv => fin _ _ _ v Hy (LP_use na nb) (D9.same (sx.trans sy)) (M9.trans (Mv.same (sx.trans sy))) hv
    · refine asg_tr (Tr.tup (.cons Tr.str (.cons (Tr.var rfl (.str _)) (.cons (Tr.tup (.cons (Tr.tup (.cons (Tr.var rfl (.str _)) (.cons (Tr.var rfl (.str _)) .nil))) (.cons (Tr.tup (.cons (Tr.var rfl (.str _)) (.cons (Tr.var rfl (.str _)) .nil))) .nil))) .nil)))) fun vt Hy sy hvt => ?_
      refine ret_tr (Tr.tup (.cons (TrS.cat (TrS.cat (TrS.cat (TrS.cat (TrS.cat (TrS.cat (TrS.cat (TrS.cat (TrS.cat (TrS.lit (by decide +kernel)) (TrS.var rfl la)) (TrS.lit (by decide +kernel))) (TrS.var rfl lb)) (TrS.lit (by decide +kernel))) (TrS.var rfl la)) (TrS.lit (by decide +kernel))) (TrS.var rfl le)) (TrS.lit (by decide +kernel))) (TrS.var rfl la)).tr (.cons (Tr.var rfl hvt) (.cons (Tr.andV (Tr.ix 1 (Tr.var rfl (h1.mv (MvT.same (sx.trans sy)))) rfl) (Tr.opB (Tr.max2 (Tr.lenS (Tr.var rfl (.str _)) (by omega)) (Tr.lenS (Tr.var rfl (.str _)) (by omega))) Tr.int)) .nil)))) fun v Hz sz hv => fin _ _ _ v Hz (LP_table na nb ne (of_decide_eq_false hbe)) (D9.same ((sx.trans sy).trans sz)) (M9.trans (Mv.same ((sx.trans sy).trans sz))) hv
end
end Sn

/-! ## law_k13: the drawn lines of statements -/
namespace Sn
open PySem PySem.Spec PyProof.Rows L2 TL
section
variable {P : Program} {w : World} {K : PySem.W.Frag} {mg : Str → Option Value} {base : Heap}
theorem ok_rows (T : Txt K mg) : FnOk P w K mg base CX0 5 T.f_law_row_line T.fd_law_row_line ["_law_state"] (spLine RowP) := by
  have GN : FnOk P w K mg base CX0 4 T.f_law_near T.fd_law_near ["_law_state"] spNear := ok_near T
  have GT : FnOk P w K mg base CX0 2 T.f_law_take T.fd_law_take ["_law_state", "_law_size"] spTake := ok_take T
  refine T.F_law_row_line.ok sc_law_row_line (fun vs H Q E h => ?_) (fun cdv A outer s H vs Q E hr h => ?_)
  · obtain ⟨d, g, c, m, rfl, _⟩ := h
    rfl
  · obtain ⟨d, g, c, m, rfl, D, hm, k⟩ := h
    refine ⟨_, (pss_cons (ps_set (i := 1) sc_law_row_line.nd rfl (Or.inl rfl) (pe_call (ok_take T) (hr.mono (by decide)) rfl T.g_law_take T.F_law_take.kp T.b_law_take .nil pass0 (pa_cons (pv 0) (pa_cons pe_int pa_nil))))
      (pss_cons (ps_par3 (i := 2) (j := 3) (l := 4) (by rfl) sc_law_row_line.nd rfl rfl rfl (by decide) (by decide) (by decide) rfl rfl rfl (pa_cons (pe_call (ok_near T) (hr.mono (by decide)) rfl T.g_law_near T.F_law_near.kp T.b_law_near .nil pass0 (pa_cons (pv 0) pa_nil)) (pa_cons (pe_call (ok_near T) (hr.mono (by decide)) rfl T.g_law_near T.F_law_near.kp T.b_law_near .nil pass0 (pa_cons (pv 0) pa_nil)) (pa_cons (pe_call (ok_near T) (hr.mono (by decide)) rfl T.g_law_near T.F_law_near.kp T.b_law_near .nil pass0 (pa_cons (pv 0) pa_nil)) pa_nil))) (by rfl))
      (pss_cons (ps_par3 (i := 5) (j := 6) (l := 7) (by rfl) sc_law_row_line.nd rfl rfl rfl (by decide) (by decide) (by decide) rfl rfl rfl (pa_cons (pe_ix (ix_tupK (K := K)) (pv 2) pe_int (fun _ _ => rfl)) (pa_cons (pe_ix (ix_tupK (K := K)) (pv 3) pe_int (fun _ _ => rfl)) (pa_cons (pe_ix (ix_tupK (K := K)) (pv 4) pe_int (fun _ _ => rfl)) pa_nil))) (by rfl))
      (pss_cons (ps_if (pt_cmpR op_eq (pv 1) pe_int (nomark _))
        (pss_cons (ps_set (i := 8) sc_law_row_line.nd rfl (Or.inl rfl) (pe_op op_add_str (pe_op op_add_str (pe_op op_add_str pe_str (pv 5)) pe_str) (pv 6)))
      (pss_one (ps_ret (pe_tup (pa_cons (pv 8) (pa_cons (pe_ifExp (pt_cmpR op_eq (pv 6) pe_str (nomark _)) (pe_tup (pa_cons pe_str (pa_cons (pv 5) pa_nil))) (pe_tup (pa_cons pe_str (pa_cons (pv 5) (pa_cons (pe_tup (pa_cons (pe_tup (pa_cons pe_str (pa_cons (pv 6) pa_nil))) pa_nil)) pa_nil))))) (pa_cons (pe_and (pe_ix (ix_tupK (K := K)) (pv 2) pe_int (fun _ _ => rfl)) (pe_one (pe_or (pe_ix (ix_tupK (K := K)) (pv 3) pe_int (fun _ _ => rfl)) (pe_one (pe_cmpR op_eq (pv 6) pe_str (nomark _)))))) pa_nil)))))))
        pss_nil)
      (pss_cons (ps_if (pt_cmpR op_eq (pv 1) pe_int (nomark _))
        (pss_one (ps_ret (pe_tup (pa_cons (pe_op op_add_str (pe_op op_add_str (pe_op op_add_str (pe_op op_add_str pe_str (pv 5)) pe_str) (pv 6)) pe_str) (pa_cons (pe_tup (pa_cons pe_str (pa_cons (pe_tup (pa_cons (pe_tup (pa_cons pe_str (pa_cons (pv 5) pa_nil))) (pa_cons (pe_tup (pa_cons pe_str (pa_cons (pv 6) pa_nil))) pa_nil))) pa_nil))) (pa_cons (pe_and (pe_ix (ix_tupK (K := K)) (pv 2) pe_int (fun _ _ => rfl)) (pe_one (pe_cmpR op_lt (pe_callB (call_lenN (K := K)) (by rfl) T.z_len (by decide +kernel) (pa_cons (pv 6) pa_nil)) pe_int (nomark _)))) pa_nil))))))
        pss_nil)
      (pss_cons (ps_if (pt_cmpR op_eq (pv 1) pe_int (nomark _))
        (pss_cons (ps_par (i := 8) (j := 9) (by rfl) sc_law_row_line.nd rfl rfl (by decide) rfl rfl (pa_cons (pe_op op_add_str (pe_op op_add_str (pe_op op_add_str (pe_op op_add_str pe_str (pv 5)) pe_str) (pv 6)) pe_str) (pa_cons (pe_tup (pa_cons pe_str (pa_cons pe_non (pa_cons (pe_tup (pa_cons pe_str (pa_cons (pv 5) pa_nil))) (pa_cons (pe_tup (pa_cons (pe_tup (pa_cons (pe_tup (pa_cons pe_str (pa_cons (pv 6) pa_nil))) pa_nil)) pa_nil)) pa_nil))))) pa_nil)) (by rfl))
      (pss_one (ps_ret (pe_tup (pa_cons (pv 8) (pa_cons (pv 9) (pa_cons (pe_and (pe_ix (ix_tupK (K := K)) (pv 2) pe_int (fun _ _ => rfl)) (pe_one (pe_ix (ix_tupK (K := K)) (pv 3) pe_int (fun _ _ => rfl)))) pa_nil)))))))
        pss_nil)
      (pss_cons (ps_if (pt_cmpR op_eq (pv 1) pe_int (nomark _))
        (pss_cons (ps_set (i := 8) sc_law_row_line.nd rfl (Or.inl rfl) (pe_op op_add_str (pe_op op_add_str (pe_op op_add_str (pe_op op_add_str (pe_op op_add_str (pe_op op_add_str pe_str (pv 5)) pe_str) (pv 6)) pe_str) (pv 7)) pe_str))
      (pss_one (ps_ret (pe_tup (pa_cons (pv 8) (pa_cons (pe_tup (pa_cons pe_str (pa_cons (pv 5) (pa_cons (pe_tup (pa_cons pe_str (pa_cons (pv 6) (pa_cons (pe_tup (pa_cons (pe_tup (pa_cons pe_str (pa_cons (pv 7) pa_nil))) pa_nil)) pa_nil)))) (pa_cons (pe_tup pa_nil) pa_nil))))) (pa_cons (pe_and (pe_ix (ix_tupK (K := K)) (pv 2) pe_int (fun _ _ => rfl)) (pe_and (pe_ix (ix_tupK (K := K)) (pv 3) pe_int (fun _ _ => rfl)) (pe_one (pe_ix (ix_tupK (K := K)) (pv 4) pe_int (fun _ _ => rfl))))) pa_nil)))))))
        pss_nil)
      (pss_cons (ps_if (pt_cmpR op_eq (pv 1) pe_int (nomark _))
        (pss_one (ps_ret (pe_tup (pa_cons (pv 5) (pa_cons (pe_tup (pa_cons pe_str pa_nil)) (pa_cons (pe_cmpR op_eq (pv 5) pe_str (nomark _)) pa_nil))))))
        pss_nil)
      (pss_cons (ps_set (i := 9) sc_law_row_line.nd rfl (Or.inl rfl) (pe_tup (pa_cons pe_str (pa_cons pe_non (pa_cons (pe_tup (pa_cons pe_str (pa_cons (pe_tup (pa_cons (pe_tup (pa_cons pe_str (pa_cons (pv 5) pa_nil))) (pa_cons (pe_tup (pa_cons pe_str (pa_cons (pv 6) pa_nil))) pa_nil))) pa_nil))) (pa_cons (pe_tup pa_nil) pa_nil))))))
      (pss_one (ps_ret (pe_tup (pa_cons (pe_op op_add_str (pe_op op_add_str (pe_op op_add_str (pe_op op_add_str pe_str (pv 5)) pe_str) (pv 6)) pe_str) (pa_cons (pv 9) (pa_cons (pe_and (pe_ix (ix_tupK (K := K)) (pv 2) pe_int (fun _ _ => rfl)) (pe_one (pe_cmpR op_lt (pe_callB (call_lenN (K := K)) (by rfl) T.z_len (by decide +kernel) (pa_cons (pv 6) pa_nil)) pe_int (nomark _)))) pa_nil))))))))))))))), ?_⟩
    refine ⟨_, rfl, d, g, c, m, 6, rfl, D, by omega, by decide, by decide, fun way H0 w0 w6 D0 mv0 => ?_⟩
    refine ⟨_, rfl, d, g, c, m + 1, rfl, D0, by omega, fun a v1 H1 na D1 mv1 h1 => ?_⟩
    refine ⟨_, rfl, d, g, c, m + 3, rfl, D1, by omega, fun b v2 H2 nb D2 mv2 h2 => ?_⟩
    refine ⟨_, rfl, d, g, c, m + 5, rfl, D2, by omega, fun e v3 H3 ne D3 mv3 h3 => ?_⟩
    have h1 := h1.mv ((MvT.mv D1 mv2).trans (MvT.mv D2 mv3))
    have h2 := h2.mv (MvT.mv D2 mv3)
    have M3 := mv0.trans (mv1.trans (mv2.trans mv3))
    refine ⟨_, _, _, rfl, ?_⟩
    refine par3_tr (d1 := .str a) (d2 := .str b) (d3 := .str e) (.cons (Tr.ix 0 (Tr.var rfl h1) rfl) (.cons (Tr.ix 0 (Tr.var rfl h2) rfl) (.cons (Tr.ix 0 (Tr.var rfl h3) rfl) .nil))) fun u1 u2 u3 H4 s4 e1 e2 e3 => ?_
    rw [e1.isS, e2.isS, e3.isS]
    have h1 := h1.mv (MvT.same s4)
    have h2 := h2.mv (MvT.same s4)
    have h3 := h3.mv (MvT.same s4)
    have D4 := D3.same s4
    have M4 := M3.trans (Mv.same s4)
    have la := na.len
    have lb := nb.len
    have le := ne.len
    have fin : ∀ (z : Str) (dd : PyData) (bb : Bool) (v : V) (H' : Hp), RowP z dd bb → Same H4 H' → St1 H' v (.tuple [.str z, dd, .bool bb]) → Q v H' := fun z dd bb v H' hl sm hv => k z dd bb v H' hl ((D4.same sm).mono (by omega)) (M4.trans (Mv.same sm)) hv
    refine if_tr (TrT.test (Tr.eqI (Tr.var rfl (.int way)) Tr.int)) (fun _ H5 s5 => ?_) (fun _ H5 s5 => ?_)
    · have h1 := h1.mv (MvT.same s5)
      have h2 := h2.mv (MvT.same s5)
      refine asg_tr (TrS.cat (TrS.cat (TrS.cat (TrS.lit (by decide +kernel)) (TrS.var rfl la)) (TrS.lit (by decide +kernel))) (TrS.var rfl lb)).tr fun vt H6 s6 ht => ?_
      have h1 := h1.mv (MvT.same s6)
      have h2 := h2.mv (MvT.same s6)
      by_cases hk : b = "ask"
      · refine ret_tr (Tr.tup (.cons (Tr.var rfl ht) (.cons (Tr.ifT (TrT.test (Tr.eqS (Tr.var rfl (.str b)) Tr.str)) (decide_eq_true hk) (Tr.tup (.cons Tr.str (.cons (Tr.var rfl (.str _)) .nil)))) (.cons (Tr.andV (Tr.ix 1 (Tr.var rfl h1) rfl) (Tr.orV (Tr.ix 1 (Tr.var rfl h2) rfl) (Tr.eqS (Tr.var rfl (.str _)) Tr.str))) .nil)))) fun v H7 s7 hv => fin _ _ _ v H7 (LP_ask na nb hk) ((s5.trans s6).trans s7) hv
      · refine ret_tr (Tr.tup (.cons (Tr.var rfl ht) (.cons (Tr.ifF (TrT.test (Tr.eqS (Tr.var rfl (.str b)) Tr.str)) (decide_eq_false hk) (Tr.tup (.cons Tr.str (.cons (Tr.var rfl (.str _)) (.cons (Tr.tup (.cons (Tr.tup (.cons Tr.str (.cons (Tr.var rfl (.str _)) .nil))) .nil)) .nil))))) (.cons (Tr.andV (Tr.ix 1 (Tr.var rfl h1) rfl) (Tr.orV (Tr.ix 1 (Tr.var rfl h2) rfl) (Tr.eqS (Tr.var rfl (.str _)) Tr.str))) .nil)))) fun v H7 s7 hv => fin _ _ _ v H7 (LP_let na nb hk) ((s5.trans s6).trans s7) hv
    refine if_tr (TrT.test (Tr.eqI (Tr.var rfl (.int way)) Tr.int)) (fun _ H6 s6 => ?_) (fun _ H6 s6 => ?_)
    · refine ret_tr (Tr.tup (.cons (TrS.cat (TrS.cat (TrS.cat (TrS.cat (TrS.lit (by decide +kernel)) (TrS.var rfl la)) (TrS.lit (by decide +kernel))) (TrS.var rfl lb)) (TrS.lit (by decide +kernel))).tr (.cons (Tr.tup (.cons Tr.str (.cons (Tr.tup (.cons (Tr.tup (.cons Tr.str (.cons (Tr.var rfl (.str _)) .nil))) (.cons (Tr.tup (.cons Tr.str (.cons (Tr.var rfl (.str _)) .nil))) .nil))) .nil))) (.cons (Tr.andV (Tr.ix 1 (Tr.var rfl (h1.mv (MvT.same (s5.trans s6)))) rfl) (Tr.opB (Tr.lenS (Tr.var rfl (.str _)) (by omega)) Tr.int)) .nil)))) fun v H7 s7 hv => fin _ _ _ v H7 (LP_return na nb) ((s5.trans s6).trans s7) hv
    have s6 := s5.trans s6
    refine if_tr (TrT.test (Tr.eqI (Tr.var rfl (.int way)) Tr.int)) (fun _ H7 s7 => ?_) (fun _ H7 s7 => ?_)
    · refine par_tr (.cons (TrS.cat (TrS.cat (TrS.cat (TrS.cat (TrS.lit (by decide +kernel)) (TrS.var rfl la)) (TrS.lit (by decide +kernel))) (TrS.var rfl lb)) (TrS.lit (by decide +kernel))).tr (.cons (Tr.tup (.cons Tr.str (.cons Tr.non (.cons (Tr.tup (.cons Tr.str (.cons (Tr.var rfl (.str _)) .nil))) (.cons (Tr.tup (.cons (Tr.tup (.cons (Tr.tup (.cons Tr.str (.cons (Tr.var rfl (.str _)) .nil))) .nil)) .nil)) .nil))))) .nil)) fun u1 u2 H8 s8 e1 e2 => ?_
      have s8 := (s6.trans s7).trans s8
      refine ret_tr (Tr.tup (.cons (Tr.var rfl e1) (.cons (Tr.var rfl e2) (.cons (Tr.andV (Tr.ix 1 (Tr.var rfl (h1.mv (MvT.same s8))) rfl) (Tr.ix 1 (Tr.var rfl (h2.mv (MvT.same s8))) rfl)) .nil)))) fun v H9 s9 hv => fin _ _ _ v H9 (LP_call na nb) (s8.trans s9) hv
    have s7 := s6.trans s7
    refine if_tr (TrT.test (Tr.eqI (Tr.var rfl (.int way)) Tr.int)) (fun _ H8 s8 => ?_) (fun _ H8 s8 => ?_)
    · refine asg_tr (TrS.cat (TrS.cat (TrS.cat (TrS.cat (TrS.cat (TrS.cat (TrS.lit (by decide +kernel)) (TrS.var rfl la)) (TrS.lit (by decide +kernel))) (TrS.var rfl lb)) (TrS.lit (by decide +kernel))) (TrS.var rfl le)) (TrS.lit (by decide +kernel))).tr fun vt H9 s9 ht => ?_
      have s9 := (s7.trans s8).trans s9
      refine ret_tr (Tr.tup (.cons (Tr.var rfl ht) (.cons (Tr.tup (.cons Tr.str (.cons (Tr.var rfl (.str _)) (.cons (Tr.tup (.cons Tr.str (.cons (Tr.var rfl (.str _)) (.cons (Tr.tup (.cons (Tr.tup (.cons Tr.str (.cons (Tr.var rfl (.str _)) .nil))) .nil)) .nil)))) (.cons (Tr.tup .nil) .nil))))) (.cons (Tr.andV (Tr.ix 1 (Tr.var rfl (h1.mv (MvT.same s9))) rfl) (Tr.andV (Tr.ix 1 (Tr.var rfl (h2.mv (MvT.same s9))) rfl) (Tr.ix 1 (Tr.var rfl (h3.mv (MvT.same s9))) rfl))) .nil)))) fun v Hx sx hv => fin _ _ _ v Hx (LP_letcall na nb ne) (s9.trans sx) hv
    have s8 := s7.trans s8
    refine if_tr (TrT.test (Tr.eqI (Tr.var rfl (.int way)) Tr.int)) (fun _ H9 s9 => ?_) (fun _ H9 s9 => ?_)
    · refine ret_tr (Tr.tup (.cons (Tr.var rfl (.str _)) (.cons (Tr.tup (.cons Tr.str .nil)) (.cons (Tr.eqS (Tr.var rfl (.str _)) Tr.str) .nil)))) fun v Hx sx hv => fin _ _ _ v Hx (LP_word na) ((s8.trans s9).trans sx) hv
    have s9 := s8.trans s9
    refine asg_tr (Tr.tup (.cons Tr.str (.cons Tr.non (.cons (Tr.tup (.cons Tr.str (.cons (Tr.tup (.cons (Tr.tup (.cons Tr.str (.cons (Tr.var rfl (.str _)) .nil))) (.cons (Tr.tup (.cons Tr.str (.cons (Tr.var rfl (.str _)) .nil))) .nil))) .nil))) (.cons (Tr.tup .nil) .nil))))) fun vt Hx sx ht => ?_
    have sx := s9.trans sx
    refine ret_tr (Tr.tup (.cons (TrS.cat (TrS.cat (TrS.cat (TrS.cat (TrS.lit (by decide +kernel)) (TrS.var rfl la)) (TrS.lit (by decide +kernel))) (TrS.var rfl lb)) (TrS.lit (by decide +kernel))).tr (.cons (Tr.var rfl ht) (.cons (Tr.andV (Tr.ix 1 (Tr.var rfl (h1.mv (MvT.same sx))) rfl) (Tr.opB (Tr.lenS (Tr.var rfl (.str _)) (by omega)) Tr.int)) .nil)))) fun v Hy sy hv => fin _ _ _ v Hy (LP_built na nb) (sx.trans sy) hv
theorem ok_blks (T : Txt K mg) : FnOk P w K mg base CX0 5 T.f_law_block_line T.fd_law_block_line ["_law_state"] (spLine BlkP) := by
  have GN : FnOk P w K mg base CX0 4 T.f_law_near T.fd_law_near ["_law_state"] spNear := ok_near T
  have GT : FnOk P w K mg base CX0 2 T.f_law_take T.fd_law_take ["_law_state", "_law_size"] spTake := ok_take T
  refine T.F_law_block_line.ok sc_law_block_line (fun vs H Q E h => ?_) (fun cdv A outer s H vs Q E hr h => ?_)
  · obtain ⟨d, g, c, m, rfl, _⟩ := h
    rfl
  · obtain ⟨d, g, c, m, rfl, D, hm, k⟩ := h
    refine ⟨_, (pss_cons (ps_par3 (i := 1) (j := 2) (l := 3) (by rfl) sc_law_block_line.nd rfl rfl rfl (by decide) (by decide) (by decide) rfl rfl rfl (pa_cons (pe_call (ok_take T) (hr.mono (by decide)) rfl T.g_law_take T.F_law_take.kp T.b_law_take .nil pass0 (pa_cons (pv 0) (pa_cons pe_int pa_nil))) (pa_cons (pe_call (ok_near T) (hr.mono (by decide)) rfl T.g_law_near T.F_law_near.kp T.b_law_near .nil pass0 (pa_cons (pv 0) pa_nil)) (pa_cons (pe_call (ok_near T) (hr.mono (by decide)) rfl T.g_law_near T.F_law_near.kp T.b_law_near .nil pass0 (pa_cons (pv 0) pa_nil)) pa_nil))) (by rfl))
      (pss_cons (ps_par (i := 4) (j := 5) (by rfl) sc_law_block_line.nd rfl rfl (by decide) rfl rfl (pa_cons (pe_ix (ix_tupK (K := K)) (pv 2) pe_int (fun _ _ => rfl)) (pa_cons (pe_ix (ix_tupK (K := K)) (pv 3) pe_int (fun _ _ => rfl)) pa_nil)) (by rfl))
      (pss_cons (ps_if (pt_cmpR op_eq (pv 1) pe_int (nomark _))
        (pss_one (ps_ret (pe_tup (pa_cons (pe_op op_add_str (pe_op op_add_str (pe_op op_add_str (pe_op op_add_str pe_str (pv 4)) pe_str) (pv 5)) pe_str) (pa_cons (pe_tup (pa_cons pe_str (pa_cons (pe_tup (pa_cons (pe_tup (pa_cons pe_str (pa_cons (pv 4) pa_nil))) pa_nil)) (pa_cons (pv 5) (pa_cons (pe_tup (pa_cons (pe_tup (pa_cons pe_str pa_nil)) pa_nil)) (pa_cons (pe_tup pa_nil) pa_nil)))))) (pa_cons (pe_and (pe_ix (ix_tupK (K := K)) (pv 2) pe_int (fun _ _ => rfl)) (pe_one (pe_cmpR op_lt (pe_callB (call_lenN (K := K)) (by rfl) T.z_len (by decide +kernel) (pa_cons (pv 5) pa_nil)) pe_int (nomark _)))) pa_nil))))))
        pss_nil)
      (pss_cons (ps_if (pt_cmpR op_eq (pv 1) pe_int (nomark _))
        (pss_one (ps_ret (pe_tup (pa_cons (pe_op op_add_str (pe_op op_add_str pe_str (pv 4)) pe_str) (pa_cons (pe_tup (pa_cons pe_str (pa_cons (pe_tup (pa_cons (pe_tup (pa_cons pe_str (pa_cons (pv 4) pa_nil))) pa_nil)) (pa_cons (pe_tup (pa_cons (pe_tup (pa_cons pe_str pa_nil)) pa_nil)) (pa_cons (pe_tup pa_nil) pa_nil))))) (pa_cons (pe_ix (ix_tupK (K := K)) (pv 2) pe_int (fun _ _ => rfl)) pa_nil))))))
        pss_nil)
      (pss_one (ps_ret (pe_tup (pa_cons (pe_op op_add_str (pe_op op_add_str (pe_op op_add_str (pe_op op_add_str pe_str (pv 4)) pe_str) (pv 5)) pe_str) (pa_cons (pe_tup (pa_cons pe_str (pa_cons (pv 4) (pa_cons (pv 5) (pa_cons (pe_tup (pa_cons (pe_tup (pa_cons pe_str pa_nil)) pa_nil)) pa_nil))))) (pa_cons (pe_and (pe_ix (ix_tupK (K := K)) (pv 2) pe_int (fun _ _ => rfl)) (pe_one (pe_cmpR op_lt (pe_callB (call_lenN (K := K)) (by rfl) T.z_len (by decide +kernel) (pa_cons (pv 5) pa_nil)) pe_int (nomark _)))) pa_nil)))))))))), ?_⟩
    refine ⟨_, rfl, d, g, c, m, 3, rfl, D, by omega, by decide, by decide, fun way H0 w0 w6 D0 mv0 => ?_⟩
    refine ⟨_, rfl, d, g, c, m + 1, rfl, D0, by omega, fun a v1 H1 na D1 mv1 h1 => ?_⟩
    refine ⟨_, rfl, d, g, c, m + 3, rfl, D1, by omega, fun b v2 H2 nb D2 mv2 h2 => ?_⟩
    have h1 := h1.mv (MvT.mv D1 mv2)
    have M3 := mv0.trans (mv1.trans mv2)
    refine ⟨_, _, _, rfl, ?_⟩
    refine par_tr (d1 := .str a) (d2 := .str b) (.cons (Tr.ix 0 (Tr.var rfl h1) rfl) (.cons (Tr.ix 0 (Tr.var rfl h2) rfl) .nil)) fun u1 u2 H4 s4 e1 e2 => ?_
    rw [e1.isS, e2.isS]
    have h1 := h1.mv (MvT.same s4)
    have D4 := D2.same s4
    have M4 := M3.trans (Mv.same s4)
    have la := na.len
    have lb := nb.len
    have fin : ∀ (z : Str) (dd : PyData) (bb : Bool) (v : V) (H' : Hp), BlkP z dd bb → Same H4 H' → St1 H' v (.tuple [.str z, dd, .bool bb]) → Q v H' := fun z dd bb v H' hl sm hv => k z dd bb v H' hl ((D4.same sm).mono (by omega)) (M4.trans (Mv.same sm)) hv
    refine if_tr (TrT.test (Tr.eqI (Tr.var rfl (.int way)) Tr.int)) (fun _ H5 s5 => ?_) (fun _ H5 s5 => ?_)
    · refine ret_tr (Tr.tup (.cons (TrS.cat (TrS.cat (TrS.cat (TrS.cat (TrS.lit (by decide +kernel)) (TrS.var rfl la)) (TrS.lit (by decide +kernel))) (TrS.var rfl lb)) (TrS.lit (by decide +kernel))).tr (.cons (Tr.tup (.cons Tr.str (.cons (Tr.tup (.cons (Tr.tup (.cons Tr.str (.cons (Tr.var rfl (.str _)) .nil))) .nil)) (.cons (Tr.var rfl (.str _)) (.cons (Tr.tup (.cons (Tr.tup (.cons Tr.str .nil)) .nil)) (.cons (Tr.tup .nil) .nil)))))) (.cons (Tr.andV (Tr.ix 1 (Tr.var rfl (h1.mv (MvT.same s5))) rfl) (Tr.opB (Tr.lenS (Tr.var rfl (.str _)) (by omega)) Tr.int)) .nil)))) fun v H7 s7 hv => fin _ _ _ v H7 (LP_if na nb) (s5.trans s7) hv
    refine if_tr (TrT.test (Tr.eqI (Tr.var rfl (.int way)) Tr.int)) (fun _ H6 s6 => ?_) (fun _ H6 s6 => ?_)
    · refine ret_tr (Tr.tup (.cons (TrS.cat (TrS.cat (TrS.lit (by decide +kernel)) (TrS.var rfl la)) (TrS.lit (by decide +kernel))).tr (.cons (Tr.tup (.cons Tr.str (.cons (Tr.tup (.cons (Tr.tup (.cons Tr.str (.cons (Tr.var rfl (.str _)) .nil))) .nil)) (.cons (Tr.tup (.cons (Tr.tup (.cons Tr.str .nil)) .nil)) (.cons (Tr.tup .nil) .nil))))) (.cons (Tr.ix 1 (Tr.var rfl (h1.mv (MvT.same (s5.trans s6)))) rfl) .nil)))) fun v H7 s7 hv => fin _ _ _ v H7 (LP_there na) ((s5.trans s6).trans s7) hv
    refine ret_tr (Tr.tup (.cons (TrS.cat (TrS.cat (TrS.cat (TrS.cat (TrS.lit (by decide +kernel)) (TrS.var rfl la)) (TrS.lit (by decide +kernel))) (TrS.var rfl lb)) (TrS.lit (by decide +kernel))).tr (.cons (Tr.tup (.cons Tr.str (.cons (Tr.var rfl (.str _)) (.cons (Tr.var rfl (.str _)) (.cons (Tr.tup (.cons (Tr.tup (.cons Tr.str .nil)) .nil)) .nil))))) (.cons (Tr.andV (Tr.ix 1 (Tr.var rfl (h1.mv (MvT.same (s5.trans s6)))) rfl) (Tr.opB (Tr.lenS (Tr.var rfl (.str _)) (by omega)) Tr.int)) .nil)))) fun v H7 s7 hv => fin _ _ _ v H7 (LP_each na nb) ((s5.trans s6).trans s7) hv
end
end Sn

/-! ## law_k13 -/
namespace Sn
open PySem PySem.Spec PyProof.Rows L2 TL
mutual
theorem Dh.dpL {K : PySem.W.Frag} {H : Hp} : ∀ {v : V} {d : PyData}, Dh H v d → d.canLay0 = true → Dp K H v d
  | _, _, .non, _ => .non
  | _, _, .bl b, _ => .bl b
  | _, _, .int i, _ => .int i
  | _, _, .str x, _ => .str x
  | _, _, .lst h a, e => .lst (.inl (.inl h)) (a.dpL (by simpa [PyData.canLay0] using e))
  | _, _, .tup h a, e => .tup (.inl (.inl h)) (a.dpL (by simpa [PyData.canLay0] using e))
  | _, _, .dk h, e => by simp [PyData.canLay0] at e
theorem DhAll.dpL {K : PySem.W.Frag} {H : Hp} : ∀ {vs : List V} {ds : List PyData}, DhAll H vs ds → PyData.canLayAll0 ds = true → DpAll K H vs ds
  | _, _, .nil, _ => .nil
  | _, _, .cons h a, e => .cons (h.dpL (by simp only [PyData.canLayAll0, Bool.and_eq_true] at e; exact e.1)) (a.dpL (by simp only [PyData.canLayAll0, Bool.and_eq_true] at e; exact e.2))
end
def ShowOk (d : PyData) : Prop := (∃ n : Nat, d = .int n ∧ n ≤ 1000000) ∨ ∃ ds k w, d = .tuple ds ∧ Sh d k w ∧ k ≤ 60 ∧ w ≤ 100000
section
variable {X : Cx}
theorem call_reprB (hgu : X.A.guards = some []) (hu : X.A.units + 70 < cLine) : CallR X (.builtin "repr") (fun xs H Q => ∃ (v : V) (d : PyData), xs = [v] ∧ St1 H v d ∧ ShowOk d ∧ Q (.str d.shown) H) := by
  intro pins s σ H xs us Q I r h
  obtain ⟨v, d, rfl, hv, hd, q⟩ := h
  rcases hd with ⟨n, rfl, hn⟩ | ⟨ds, k, wt, rfl, sh, hk, hw⟩
  · rw [hv.isI] at r
    refine call_reprS pins s σ H _ us Q I r ⟨.int n, _, rfl, rfl, fun i e => ?_, q⟩
    cases e
    have : (((n : Nat) : Int).natAbs).log2 < 20 := by
      show n.log2 < 20
      by_cases h0 : n = 0
      · rw [h0]; decide
      · exact (Nat.log2_lt h0).mpr (by omega)
    omega
  · obtain ⟨a, vs, rfl, ha, hvs⟩ := hv.tupAt
    have h1 := sh.dep
    have h2 := sh.wei
    have hz : (PyData.tuple ds).shown.length ≤ sizeLine := by
      have := shown_le13 (d := .tuple ds) (by
        unfold PyData.layable0
        simp only [Bool.and_eq_true, decide_eq_true_eq]
        exact ⟨⟨sh.lay, by omega⟩, by omega⟩) sh.isho
      rw [sizeLine_eq]
      omega
    exact call_repr hgu hu pins s σ H _ us Q I r ⟨a, _, rfl, (hv H .refl).dpL sh.lay, sh.show_, PyData.hasDict_of_canLay _ sh.lay, by omega, hz, q⟩
end
theorem Shw.one {d : PyData} (h : Shw d) : ShowOk (.tuple [d]) := by
  obtain ⟨k, wt, sh, hk, hw⟩ := h
  exact .inr ⟨_, _, _, rfl, Sh.tup (.cons sh .nil), by omega, by omega⟩
theorem Shw.inF {d : PyData} (h : Shw d) : ShowOk (.tuple [.tuple [.str "def", .str "f", .tuple [], .tuple [d]]]) := by
  obtain ⟨k, wt, sh, hk, hw⟩ := h
  have h1 : Sh (.str "def") 0 9 := Sh.lit (by decide +kernel) (by decide +kernel)
  have h2 : Sh (.str "f") 0 9 := Sh.lit (by decide +kernel) (by decide +kernel)
  exact .inr ⟨_, _, _, rfl, Sh.tup (.cons (Sh.tup (.cons h1 (.cons h2 (.cons (Sh.tup .nil) (.cons (Sh.tup (.cons sh .nil)) .nil))))) .nil), by omega, by omega⟩
theorem split_row {z : Str} (h : 10 ∉ tl z) : Txt.split (("def f():\n    " : Str) ++ z) "\n" = [defS, ("    " : Str) ++ z] := by
  have e4 : tl ("    " : Str) = [32, 32, 32, 32] := by decide +kernel
  refine split_nl ?_ (by simp) ?_
  · have e1 : tl ("def f():\n    " : Str) = tl defS ++ ([10] ++ [32, 32, 32, 32]) := by decide +kernel
    rw [tl_append, e1, List.append_assoc]
    show _ = TL.joinL [10] [tl defS, tl (("    " : Str) ++ z)]
    rw [tl_append, e4]
    rfl
  · intro l hl
    simp only [List.mem_cons, List.not_mem_nil, or_false] at hl
    rcases hl with rfl | rfl
    · decide +kernel
    · rw [tl_append, e4]
      simp [h]
theorem split_blk {z : Str} (h : 10 ∉ tl z) : Txt.split (("def f():\n    " : Str) ++ z ++ "\n        fail") "\n" = [defS, ("    " : Str) ++ z, failS] := by
  have e4 : tl ("    " : Str) = [32, 32, 32, 32] := by decide +kernel
  refine split_nl ?_ (by simp) ?_
  · have e1 : tl ("def f():\n    " : Str) = tl defS ++ ([10] ++ [32, 32, 32, 32]) := by decide +kernel
    have e2 : tl ("\n        fail" : Str) = [10] ++ tl failS := by decide +kernel
    rw [tl_append, tl_append, e1, e2, List.append_assoc, List.append_assoc]
    show _ = TL.joinL [10] [tl defS, tl (("    " : Str) ++ z), tl failS]
    rw [tl_append, e4]
    show _ = tl defS ++ ([10] ++ (([32, 32, 32, 32] ++ tl z) ++ ([10] ++ tl failS)))
    simp
  · intro l hl
    simp only [List.mem_cons, List.not_mem_nil, or_false] at hl
    rcases hl with rfl | rfl | rfl
    · decide +kernel
    · rw [tl_append, e4]
      simp [h]
    · decide +kernel
theorem split_item {z : Str} (h : 10 ∉ tl z) : Txt.split z "\n" = [z] := split_nl (ls := [z]) (by show _ = TL.joinL [10] [tl z]; rfl) (by simp) (by simpa using h)
/-- what is due: what is read, or the number of the line -/
structure Due (z : Str) (dd : PyData) : Prop where
  ok : TextOk z
  due : (∃ t, readAll (Txt.split z "\n") = .ok t ∧ dd = .tuple t ∧ ShowOk dd) ∨ ∃ k : Nat, readAll (Txt.split z "\n") = .error k ∧ dd = .int k ∧ k ≤ 1000
theorem in4 (z : Str) : tl (("    " : Str) ++ z) = List.replicate 4 32 ++ tl z := by
  have e4 : tl ("    " : Str) = [32, 32, 32, 32] := by decide +kernel
  rw [tl_append, e4]
  rfl
theorem due_item {z : Str} {dd : PyData} {g : Bool} (h : LineP pItem z dd g) : Due z (if g = true then .tuple [dd] else .int (1 : Nat)) := by
  have e := split_item h.nf
  have hl := h.len
  refine ⟨⟨by omega, by rw [e]; simp, by rw [e]; intro l hl'; simp at hl'; rw [hl']; omega⟩, ?_⟩
  rw [e, rd_item h.ln h.rd h.hd]
  cases g with
  | true => exact .inl ⟨_, rfl, rfl, h.sh.one⟩
  | false => exact .inr ⟨1, rfl, rfl, by decide⟩
theorem len4 : ("    " : Str).length = 4 := by decide +kernel
theorem len13 : ("def f():\n    " : Str).length = 13 := by decide +kernel
theorem len13b : ("\n        fail" : Str).length = 13 := by decide +kernel
theorem lenD : defS.length = 8 := by decide +kernel
theorem lenF : failS.length = 12 := by decide +kernel
theorem due_row {z : Str} {dd : PyData} {g : Bool} (h : RowP z dd g) : Due (("def f():\n    " : Str) ++ z) (if g = true then .tuple [.tuple [.str "def", .str "f", .tuple [], .tuple [dd]]] else .int (2 : Nat)) := by
  have e := split_row h.nf
  have hl := h.len
  refine ⟨⟨by rw [len_app, len13]; omega, by rw [e]; simp, ?_⟩, ?_⟩
  · rw [e]
    intro l hl'
    simp only [List.mem_cons, List.not_mem_nil, or_false] at hl'
    rcases hl' with rfl | rfl
    · rw [lenD]; decide
    · rw [len_app, len4]; omega
  · rw [e, rd_row (in4 z) h.ln h.rd h.pl]
    cases g with
    | true => exact .inl ⟨_, rfl, rfl, h.sh.inF⟩
    | false => exact .inr ⟨2, rfl, rfl, by decide⟩
theorem due_blk {z : Str} {dd : PyData} {g : Bool} (h : BlkP z dd g) : Due (("def f():\n    " : Str) ++ z ++ "\n        fail") (if g = true then .tuple [.tuple [.str "def", .str "f", .tuple [], .tuple [dd]]] else .int (2 : Nat)) := by
  have e := split_blk h.nf
  have hl := h.len
  obtain ⟨wd, rest, h1, h2, h3, h4, h5⟩ := h.ex
  refine ⟨⟨by rw [len_app, len_app, len13, len13b]; omega, by rw [e]; simp, ?_⟩, ?_⟩
  · rw [e]
    intro l hl'
    simp only [List.mem_cons, List.not_mem_nil, or_false] at hl'
    rcases hl' with rfl | rfl | rfl
    · rw [lenD]; decide
    · rw [len_app, len4]; omega
    · rw [lenF]; decide
  · rw [e, rd_blk (in4 z) h.ln h1 h2 h3 h4]
    cases g with
    | true =>
      rw [h5] at h ⊢
      exact .inl ⟨_, rfl, rfl, h.sh.inF⟩
    | false => exact .inr ⟨2, rfl, rfl, by decide⟩
section
variable {P : Program} {w : World} {K : PySem.W.Frag} {mg : Str → Option Value} {base : Heap}
/-- the law: a list of at most 63 ints is handed in, True comes out -/
def spLaw (K : PySem.W.Frag) : Sp := fun vs H Q _ => ∃ (a : Addr) (ns : List Int), vs = [.ref a] ∧ SqL K H a (ns.map V.int) ∧ ns.length ≤ 63 ∧ ∀ H', Q (.bl true) H'
theorem ok_law (T : Txt K mg) (hP : PrOk P) (hD : DcOk w T) : FnG P w K mg base CX0 14 T.f_law T.fd_law ["_law_script"] (spLaw K) := by
  have GI : FnOk P w K mg base CX0 5 T.f_law_item_line T.fd_law_item_line ["_law_state"] (spLine (LineP pItem)) := ok_items T
  have GW : FnOk P w K mg base CX0 5 T.f_law_row_line T.fd_law_row_line ["_law_state"] (spLine RowP) := ok_rows T
  have GB : FnOk P w K mg base CX0 5 T.f_law_block_line T.fd_law_block_line ["_law_state"] (spLine BlkP) := ok_blks T
  refine okG T.F_law sc_law (fun vs H Q E h => ?_) (fun cdv A outer s H vs Q E hgu hr h => ?_)
  · obtain ⟨a, ns, rfl, _⟩ := h
    rfl
  · obtain ⟨a, ns, rfl, hS, hl, k⟩ := h
    refine ⟨_, (pss_cons (ps_set (i := 1) sc_law.nd rfl (Or.inl rfl) (pe_call (ok_begun T) (hr.mono (by decide)) rfl T.g_law_begun T.F_law_begun.kp T.b_law_begun .nil pass0 (pa_cons (pv 0) pa_nil)))
      (pss_cons (ps_for PassesOwn.never rfl (pi_range1 (by rfl) T.z_range (pa_cons (pe_op op_add pe_int (pe_callB (call_min2 rfl) (by rfl) T.z_min (by decide +kernel) (pa_cons (pe_callB (call_lenN (K := K)) (by rfl) T.z_len (by decide +kernel) (pa_cons (pv 0) pa_nil)) (pa_cons pe_int pa_nil)))) pa_nil)) (pg_name (i := 2) sc_law.nd rfl (Or.inl rfl))
        (pss_cons (ps_set (i := 3) sc_law.nd rfl (Or.inl rfl) (pe_call (ok_take T) (hr.mono (by decide)) rfl T.g_law_take T.F_law_take.kp T.b_law_take .nil pass0 (pa_cons (pv 1) (pa_cons pe_int pa_nil))))
      (C8.pss_cut (ps_if (pt_cmpR op_eq (pv 3) pe_int (nomark _))
        (pss_cons (ps_asg (pe_call (ok_items T) (hr.mono (by decide)) rfl T.g_law_item_line T.F_law_item_line.kp T.b_law_item_line .nil pass0 (pa_cons (pv 1) pa_nil)) (pg_tup rfl (pgs_cons (pg_name (i := 4) sc_law.nd rfl (Or.inl rfl)) (pgs_cons (pg_name (i := 5) sc_law.nd rfl (Or.inl rfl)) (pgs_cons (pg_name (i := 6) sc_law.nd rfl (Or.inl rfl)) pgs_nil)))))
      (pss_one (ps_set (i := 7) sc_law.nd rfl (Or.inl rfl) (pe_ifExp (pt_val (pv 6)) (pe_tup (pa_cons (pv 5) pa_nil)) pe_int))))
        (pss_one (ps_if (pt_cmpR op_eq (pv 3) pe_int (nomark _))
        (pss_cons (ps_asg (pe_call (ok_rows T) (hr.mono (by decide)) rfl T.g_law_row_line T.F_law_row_line.kp T.b_law_row_line .nil pass0 (pa_cons (pv 1) pa_nil)) (pg_tup rfl (pgs_cons (pg_name (i := 4) sc_law.nd rfl (Or.inl rfl)) (pgs_cons (pg_name (i := 8) sc_law.nd rfl (Or.inl rfl)) (pgs_cons (pg_name (i := 6) sc_law.nd rfl (Or.inl rfl)) pgs_nil)))))
      (pss_cons (ps_set (i := 7) sc_law.nd rfl (Or.inl rfl) (pe_ifExp (pt_val (pv 6)) (pe_tup (pa_cons (pe_tup (pa_cons pe_str (pa_cons pe_str (pa_cons (pe_tup pa_nil) (pa_cons (pe_tup (pa_cons (pv 8) pa_nil)) pa_nil))))) pa_nil)) pe_int))
      (pss_one (ps_set (i := 4) sc_law.nd rfl (Or.inl rfl) (pe_op op_add_str pe_str (pv 4))))))
        (pss_cons (ps_asg (pe_call (ok_blks T) (hr.mono (by decide)) rfl T.g_law_block_line T.F_law_block_line.kp T.b_law_block_line .nil pass0 (pa_cons (pv 1) pa_nil)) (pg_tup rfl (pgs_cons (pg_name (i := 4) sc_law.nd rfl (Or.inl rfl)) (pgs_cons (pg_name (i := 8) sc_law.nd rfl (Or.inl rfl)) (pgs_cons (pg_name (i := 6) sc_law.nd rfl (Or.inl rfl)) pgs_nil)))))
      (pss_cons (ps_set (i := 7) sc_law.nd rfl (Or.inl rfl) (pe_ifExp (pt_val (pv 6)) (pe_tup (pa_cons (pe_tup (pa_cons pe_str (pa_cons pe_str (pa_cons (pe_tup pa_nil) (pa_cons (pe_tup (pa_cons (pv 8) pa_nil)) pa_nil))))) pa_nil)) pe_int))
      (pss_one (ps_set (i := 4) sc_law.nd rfl (Or.inl rfl) (pe_op op_add_str (pe_op op_add_str pe_str (pv 4)) pe_str))))))))
      (pss_one (ps_if (pt_cmpR op_ne (pe_callB (call_reprB hgu (hu70 hr)) (by rfl) T.z_repr (by decide +kernel) (pa_cons (pe_call (ok_told T hP hD) (hr.mono (by decide)) rfl T.g_law_told T.F_law_told.kp T.b_law_told .nil pass0 (pa_cons (pv 4) pa_nil)) pa_nil)) (pe_callB (call_reprB hgu (hu70 hr)) (by rfl) T.z_repr (by decide +kernel) (pa_cons (pv 7) pa_nil)) (nomark _))
        (pss_one (ps_ret pe_bl))
        pss_nil)))))
      (pss_one (ps_ret pe_bl)))), ?_⟩
    refine ⟨_, rfl, a, ns, rfl, hS, by omega, fun d g c H1 nd ng nc D1 s1 => ?_⟩
    refine ⟨_, rfl, _, ns.length, rfl, .inl ⟨_, s1.seq hS, by rw [List.length_map]⟩, _, _, rfl, _, _, rfl, rfl, _, rfl, ?_⟩
    obtain ⟨n, hn, e0⟩ : ∃ n : Nat, n ≤ 40 ∧ (if (40 : Int) < (ns.length : Int) then (40 : Int) else (ns.length : Int)) = (n : Nat) := by
      by_cases h : (40 : Int) < (ns.length : Int)
      · exact ⟨40, by omega, if_pos h⟩
      · exact ⟨ns.length, by omega, if_neg h⟩
    show -(2 ^ 62) ≤ (12 : Int) + _ ∧ _
    rw [e0]
    refine ⟨by omega, by omega, ?_⟩
    refine for_range (lo := 0) (n := ((12 : Int) + (n : Nat)).toNat) (fun i σ H2 => ∃ (v2 v3 v4 v5 v6 v7 v8 : Option V), σ = [some (.ref a), some (.ref d), v2, v3, v4, v5, v6, v7, v8] ∧ Dr H2 d g c (9 * i)) ⟨none, none, none, none, none, none, none, rfl, D1⟩ ?_ ?_
    · rintro i σ H2 hi ⟨v2, v3, v4, v5, v6, v7, v8, rfl, D2⟩
      refine ⟨_, rfl, d, g, c, _, 3, rfl, D2, by omega, by decide, by decide, fun way H3 w0 w3 D3 mv3 => ?_⟩
      refine ⟨fun σ H4 => ∃ (z : Str) (dd : PyData) (vd : V) (u5 u6 u8 : Option V), σ = [some (.ref a), some (.ref d), some (.int (0 + (i : Nat))), some (.int way), some (.str z), u5, u6, some vd, u8] ∧ Dr H4 d g c (9 * i + 9) ∧ Due z dd ∧ St1 H4 vd dd, ?_, ?_⟩
      · refine if_tr (TrT.test (Tr.eqI (Tr.var rfl (.int way)) Tr.int)) (fun _ H4 s4 => ?_) (fun _ H4 s4 => ?_)
        · refine ⟨_, rfl, d, g, c, _, rfl, D3.same s4, by omega, fun z dd b v H5 hl D5 mv5 hv => ?_⟩
          obtain ⟨p, x1, x2, x3, rfl, hp, e1, e2, e3⟩ := hv.tup3
          rw [e1.isS, e3.isB] at hp
          refine ⟨p, _, rfl, .inl (.inl hp), rfl, _, _, rfl, _, _, rfl, _, _, rfl, rfl, ?_⟩
          cases b with
          | true =>
            refine asg_tr (Tr.ifT (TrT.ofB (Tr.var rfl (.bl true))) rfl (Tr.tup (.cons (Tr.var rfl e2) .nil))) fun u H6 s6 hu => ?_
            exact ⟨z, _, u, _, _, _, rfl, (D5.same s6).mono (by omega), due_item hl, hu⟩
          | false =>
            refine asg_tr (Tr.ifF (TrT.ofB (Tr.var rfl (.bl false))) rfl Tr.int) fun u H6 s6 hu => ?_
            exact ⟨z, _, u, _, _, _, rfl, (D5.same s6).mono (by omega), due_item hl, hu⟩
        refine if_tr (TrT.test (Tr.eqI (Tr.var rfl (.int way)) Tr.int)) (fun _ H5 s5 => ?_) (fun _ H5 s5 => ?_)
        · refine ⟨_, rfl, d, g, c, _, rfl, D3.same (s4.trans s5), by omega, fun z dd b v H6 hl D6 mv6 hv => ?_⟩
          have lz := hl.len
          obtain ⟨p, x1, x2, x3, rfl, hp, e1, e2, e3⟩ := hv.tup3
          rw [e1.isS, e3.isB] at hp
          refine ⟨p, _, rfl, .inl (.inl hp), rfl, _, _, rfl, _, _, rfl, _, _, rfl, rfl, ?_⟩
          cases b with
          | true =>
            refine asg_tr (Tr.ifT (TrT.ofB (Tr.var rfl (.bl true))) rfl (Tr.tup (.cons (Tr.tup (.cons Tr.str (.cons Tr.str (.cons (Tr.tup .nil) (.cons (Tr.tup (.cons (Tr.var rfl e2) .nil)) .nil))))) .nil))) fun u H7 s7 hu => ?_
            refine asg_tr (TrS.cat (TrS.lit (by decide +kernel)) (TrS.var rfl lz)).tr fun u2 H8 s8 hu2 => ?_
            rw [hu2.isS]
            exact ⟨_, _, u, _, _, _, rfl, (D6.same (s7.trans s8)).mono (by omega), due_row hl, hu.mv (MvT.same s8)⟩
          | false =>
            refine asg_tr (Tr.ifF (TrT.ofB (Tr.var rfl (.bl false))) rfl Tr.int) fun u H7 s7 hu => ?_
            refine asg_tr (TrS.cat (TrS.lit (by decide +kernel)) (TrS.var rfl lz)).tr fun u2 H8 s8 hu2 => ?_
            rw [hu2.isS]
            exact ⟨_, _, u, _, _, _, rfl, (D6.same (s7.trans s8)).mono (by omega), due_row hl, hu.mv (MvT.same s8)⟩
        · refine ⟨_, rfl, d, g, c, _, rfl, D3.same (s4.trans s5), by omega, fun z dd b v H6 hl D6 mv6 hv => ?_⟩
          have lz := hl.len
          obtain ⟨p, x1, x2, x3, rfl, hp, e1, e2, e3⟩ := hv.tup3
          rw [e1.isS, e3.isB] at hp
          refine ⟨p, _, rfl, .inl (.inl hp), rfl, _, _, rfl, _, _, rfl, _, _, rfl, rfl, ?_⟩
          cases b with
          | true =>
            refine asg_tr (Tr.ifT (TrT.ofB (Tr.var rfl (.bl true))) rfl (Tr.tup (.cons (Tr.tup (.cons Tr.str (.cons Tr.str (.cons (Tr.tup .nil) (.cons (Tr.tup (.cons (Tr.var rfl e2) .nil)) .nil))))) .nil))) fun u H7 s7 hu => ?_
            refine asg_tr (TrS.cat (TrS.cat (TrS.lit (by decide +kernel)) (TrS.var rfl lz)) (TrS.lit (by decide +kernel))).tr fun u2 H8 s8 hu2 => ?_
            rw [hu2.isS]
            exact ⟨_, _, u, _, _, _, rfl, (D6.same (s7.trans s8)).mono (by omega), due_blk hl, hu.mv (MvT.same s8)⟩
          | false =>
            refine asg_tr (Tr.ifF (TrT.ofB (Tr.var rfl (.bl false))) rfl Tr.int) fun u H7 s7 hu => ?_
            refine asg_tr (TrS.cat (TrS.cat (TrS.lit (by decide +kernel)) (TrS.var rfl lz)) (TrS.lit (by decide +kernel))).tr fun u2 H8 s8 hu2 => ?_
            rw [hu2.isS]
            exact ⟨_, _, u, _, _, _, rfl, (D6.same (s7.trans s8)).mono (by omega), due_blk hl, hu.mv (MvT.same s8)⟩
      · rintro σ H4 ⟨z, dd, vd, u5, u6, u8, rfl, D4, hdue, hvd⟩
        refine ⟨_, rfl, .str z, rfl, .inl ⟨z, rfl, hdue.ok, fun t e v H5 s5 hv => ?_, fun kk e H5 s5 => ?_⟩⟩
        · rcases hdue.due with ⟨t', e', rfl, sh⟩ | ⟨k', e', _⟩
          · rw [e] at e'
            cases e'
            refine ⟨v, _, rfl, hv, sh, ?_⟩
            refine ⟨_, rfl, vd, _, rfl, hvd.mv (MvT.same s5), sh, rfl, _, rfl, iteNS rfl ?_⟩
            exact ⟨_, _, _, _, _, _, _, rfl, (D4.same s5).mono (by omega)⟩
          · rw [e] at e'
            cases e'
        · rcases hdue.due with ⟨t', e', _⟩ | ⟨k', e', rfl, hk⟩
          · rw [e] at e'
            cases e'
          · rw [e] at e'
            cases e'
            refine ⟨_, .int (kk : Nat), rfl, .int _, .inl ⟨kk, rfl, by omega⟩, ?_⟩
            refine ⟨_, rfl, vd, _, rfl, hvd.mv (MvT.same s5), .inl ⟨kk, rfl, by omega⟩, rfl, _, rfl, iteNS rfl ?_⟩
            exact ⟨_, _, _, _, _, _, _, rfl, (D4.same s5).mono (by omega)⟩
    · rintro σ H2 ⟨v2, v3, v4, v5, v6, v7, v8, rfl, D2⟩
      exact k H2
end
end Sn

namespace Sn
open PySem PySem.Spec PyProof.Rows L2
theorem all_mk {l : PySem.W.OpenLaw} {w : World} {K : PySem.W.Frag} {h : Heap} {mg : Str → Option Value} {fa : Addr}
    {f_is_word : Addr} {od_is_word an_is_word : Option Addr} {sl_is_word : Array (Option Value)} {oc_is_word kV_is_word dc_is_word pm_is_word cd_is_word ct_is_word : Value}
    {f_is_name : Addr} {od_is_name an_is_name : Option Addr} {sl_is_name : Array (Option Value)} {oc_is_name kV_is_name dc_is_name pm_is_name cd_is_name ct_is_name : Value}
    {f_are_different : Addr} {od_are_different an_are_different : Option Addr} {sl_are_different : Array (Option Value)} {oc_are_different kV_are_different dc_are_different pm_are_different cd_are_different ct_are_different : Value}
    {f_are_names : Addr} {od_are_names an_are_names : Option Addr} {sl_are_names : Array (Option Value)} {oc_are_names kV_are_names dc_are_names pm_are_names cd_are_names ct_are_names : Value}
    {f_are_pairs : Addr} {od_are_pairs an_are_pairs : Option Addr} {sl_are_pairs : Array (Option Value)} {oc_are_pairs kV_are_pairs dc_are_pairs pm_are_pairs cd_are_pairs ct_are_pairs : Value}
    {f_read_module : Addr} {od_read_module an_read_module : Option Addr} {sl_read_module : Array (Option Value)} {oc_read_module kV_read_module dc_read_module pm_read_module cd_read_module ct_read_module : Value}
    {f_law_begun : Addr} {od_law_begun an_law_begun : Option Addr} {sl_law_begun : Array (Option Value)} {oc_law_begun kV_law_begun dc_law_begun pm_law_begun cd_law_begun ct_law_begun : Value}
    {f_law_mixed : Addr} {od_law_mixed an_law_mixed : Option Addr} {sl_law_mixed : Array (Option Value)} {oc_law_mixed kV_law_mixed dc_law_mixed pm_law_mixed cd_law_mixed ct_law_mixed : Value}
    {f_law_take : Addr} {od_law_take an_law_take : Option Addr} {sl_law_take : Array (Option Value)} {oc_law_take kV_law_take dc_law_take pm_law_take cd_law_take ct_law_take : Value}
    {f_law_pick : Addr} {od_law_pick an_law_pick : Option Addr} {sl_law_pick : Array (Option Value)} {oc_law_pick kV_law_pick dc_law_pick pm_law_pick cd_law_pick ct_law_pick : Value}
    {f_law_reserved : Addr} {od_law_reserved an_law_reserved : Option Addr} {sl_law_reserved : Array (Option Value)} {oc_law_reserved kV_law_reserved dc_law_reserved pm_law_reserved cd_law_reserved ct_law_reserved : Value}
    {f_law_told : Addr} {od_law_told an_law_told : Option Addr} {sl_law_told : Array (Option Value)} {oc_law_told kV_law_told dc_law_told pm_law_told cd_law_told ct_law_told : Value}
    {f_law_near : Addr} {od_law_near an_law_near : Option Addr} {sl_law_near : Array (Option Value)} {oc_law_near kV_law_near dc_law_near pm_law_near cd_law_near ct_law_near : Value}
    {f_law_item_line : Addr} {od_law_item_line an_law_item_line : Option Addr} {sl_law_item_line : Array (Option Value)} {oc_law_item_line kV_law_item_line dc_law_item_line pm_law_item_line cd_law_item_line ct_law_item_line : Value}
    {f_law_row_line : Addr} {od_law_row_line an_law_row_line : Option Addr} {sl_law_row_line : Array (Option Value)} {oc_law_row_line kV_law_row_line dc_law_row_line pm_law_row_line cd_law_row_line ct_law_row_line : Value}
    {f_law_block_line : Addr} {od_law_block_line an_law_block_line : Option Addr} {sl_law_block_line : Array (Option Value)} {oc_law_block_line kV_law_block_line dc_law_block_line pm_law_block_line cd_law_block_line ct_law_block_line : Value}
    {f_law : Addr} {od_law an_law : Option Addr} {sl_law : Array (Option Value)} {oc_law kV_law dc_law pm_law cd_law ct_law : Value}
    {t_LETTERS : Tok}
    {t_SIGNS : Tok}
    {t_MOST_SIGNS : Tok}
    {a_RESERVED : Addr} {od_RESERVED : Option Addr} {us_RESERVED : List Value} {nn_RESERVED : Nat} {sl_RESERVED : Array (Option Value)}
    {t_MOST_PARTS : Tok}
    {t_MOST_GIVEN : Tok}
    {t_MOST_PAIRS : Tok}
    {t_MOST_LEVELS : Tok}
    {t_STEP : Tok}
    {a_BINDERS : Addr} {od_BINDERS : Option Addr} {us_BINDERS : List Value} {nn_BINDERS : Nat} {sl_BINDERS : Array (Option Value)}
    {a_OPENERS : Addr} {od_OPENERS : Option Addr} {us_OPENERS : List Value} {nn_OPENERS : Nat} {sl_OPENERS : Array (Option Value)}
    {a_SECONDS : Addr} {es_SECONDS : Array DictEntry} {nn_SECONDS : Nat} {t_SECONDS_0 t_SECONDS_1 t_SECONDS_2 : Tok}
    {a_SECOND_LINES : Addr} {od_SECOND_LINES : Option Addr} {us_SECOND_LINES : List Value} {nn_SECOND_LINES : Nat} {sl_SECOND_LINES : Array (Option Value)}
    {C_Scanner : Addr}
    {f_Scanner_init : Addr} {od_Scanner_init an_Scanner_init : Option Addr} {sl_Scanner_init : Array (Option Value)} {oc_Scanner_init kV_Scanner_init dc_Scanner_init pm_Scanner_init cd_Scanner_init ct_Scanner_init : Value}
    {f_Scanner_rest : Addr} {od_Scanner_rest an_Scanner_rest : Option Addr} {sl_Scanner_rest : Array (Option Value)} {oc_Scanner_rest kV_Scanner_rest dc_Scanner_rest pm_Scanner_rest cd_Scanner_rest ct_Scanner_rest : Value}
    {f_Scanner_take : Addr} {od_Scanner_take an_Scanner_take : Option Addr} {sl_Scanner_take : Array (Option Value)} {oc_Scanner_take kV_Scanner_take dc_Scanner_take pm_Scanner_take cd_Scanner_take ct_Scanner_take : Value}
    {f_Scanner_word : Addr} {od_Scanner_word an_Scanner_word : Option Addr} {sl_Scanner_word : Array (Option Value)} {oc_Scanner_word kV_Scanner_word dc_Scanner_word pm_Scanner_word cd_Scanner_word ct_Scanner_word : Value}
    {f_Scanner_next_name : Addr} {od_Scanner_next_name an_Scanner_next_name : Option Addr} {sl_Scanner_next_name : Array (Option Value)} {oc_Scanner_next_name kV_Scanner_next_name dc_Scanner_next_name pm_Scanner_next_name cd_Scanner_next_name ct_Scanner_next_name : Value}
    {f_Scanner_quoted : Addr} {od_Scanner_quoted an_Scanner_quoted : Option Addr} {sl_Scanner_quoted : Array (Option Value)} {oc_Scanner_quoted kV_Scanner_quoted dc_Scanner_quoted pm_Scanner_quoted cd_Scanner_quoted ct_Scanner_quoted : Value}
    {f_Scanner_part : Addr} {od_Scanner_part an_Scanner_part : Option Addr} {sl_Scanner_part : Array (Option Value)} {oc_Scanner_part kV_Scanner_part dc_Scanner_part pm_Scanner_part cd_Scanner_part ct_Scanner_part : Value}
    {f_Scanner_expr : Addr} {od_Scanner_expr an_Scanner_expr : Option Addr} {sl_Scanner_expr : Array (Option Value)} {oc_Scanner_expr kV_Scanner_expr dc_Scanner_expr pm_Scanner_expr cd_Scanner_expr ct_Scanner_expr : Value}
    {f_Scanner_built : Addr} {od_Scanner_built an_Scanner_built : Option Addr} {sl_Scanner_built : Array (Option Value)} {oc_Scanner_built kV_Scanner_built dc_Scanner_built pm_Scanner_built cd_Scanner_built ct_Scanner_built : Value}
    {f_Scanner_target : Addr} {od_Scanner_target an_Scanner_target : Option Addr} {sl_Scanner_target : Array (Option Value)} {oc_Scanner_target kV_Scanner_target dc_Scanner_target pm_Scanner_target cd_Scanner_target ct_Scanner_target : Value}
    {f_Scanner_listed : Addr} {od_Scanner_listed an_Scanner_listed : Option Addr} {sl_Scanner_listed : Array (Option Value)} {oc_Scanner_listed kV_Scanner_listed dc_Scanner_listed pm_Scanner_listed cd_Scanner_listed ct_Scanner_listed : Value}
    {f_Scanner_call : Addr} {od_Scanner_call an_Scanner_call : Option Addr} {sl_Scanner_call : Array (Option Value)} {oc_Scanner_call kV_Scanner_call dc_Scanner_call pm_Scanner_call cd_Scanner_call ct_Scanner_call : Value}
    {f_Scanner_let : Addr} {od_Scanner_let an_Scanner_let : Option Addr} {sl_Scanner_let : Array (Option Value)} {oc_Scanner_let kV_Scanner_let dc_Scanner_let pm_Scanner_let cd_Scanner_let ct_Scanner_let : Value}
    {f_Scanner_choice : Addr} {od_Scanner_choice an_Scanner_choice : Option Addr} {sl_Scanner_choice : Array (Option Value)} {oc_Scanner_choice kV_Scanner_choice dc_Scanner_choice pm_Scanner_choice cd_Scanner_choice ct_Scanner_choice : Value}
    {f_Scanner_statement : Addr} {od_Scanner_statement an_Scanner_statement : Option Addr} {sl_Scanner_statement : Array (Option Value)} {oc_Scanner_statement kV_Scanner_statement dc_Scanner_statement pm_Scanner_statement cd_Scanner_statement ct_Scanner_statement : Value}
    {f_Scanner_used : Addr} {od_Scanner_used an_Scanner_used : Option Addr} {sl_Scanner_used : Array (Option Value)} {oc_Scanner_used kV_Scanner_used dc_Scanner_used pm_Scanner_used cd_Scanner_used ct_Scanner_used : Value}
    {f_Scanner_offered : Addr} {od_Scanner_offered an_Scanner_offered : Option Addr} {sl_Scanner_offered : Array (Option Value)} {oc_Scanner_offered kV_Scanner_offered dc_Scanner_offered pm_Scanner_offered cd_Scanner_offered ct_Scanner_offered : Value}
    {f_Scanner_keyed : Addr} {od_Scanner_keyed an_Scanner_keyed : Option Addr} {sl_Scanner_keyed : Array (Option Value)} {oc_Scanner_keyed kV_Scanner_keyed dc_Scanner_keyed pm_Scanner_keyed cd_Scanner_keyed ct_Scanner_keyed : Value}
    {f_Scanner_defined : Addr} {od_Scanner_defined an_Scanner_defined : Option Addr} {sl_Scanner_defined : Array (Option Value)} {oc_Scanner_defined kV_Scanner_defined dc_Scanner_defined pm_Scanner_defined cd_Scanner_defined ct_Scanner_defined : Value}
    {f_Scanner_item : Addr} {od_Scanner_item an_Scanner_item : Option Addr} {sl_Scanner_item : Array (Option Value)} {oc_Scanner_item kV_Scanner_item dc_Scanner_item pm_Scanner_item cd_Scanner_item ct_Scanner_item : Value}
    {C_Frame : Addr}
    {f_Frame_init : Addr} {od_Frame_init an_Frame_init : Option Addr} {sl_Frame_init : Array (Option Value)} {oc_Frame_init kV_Frame_init dc_Frame_init pm_Frame_init cd_Frame_init ct_Frame_init : Value}
    {f_Frame_may_go_on : Addr} {od_Frame_may_go_on an_Frame_may_go_on : Option Addr} {sl_Frame_may_go_on : Array (Option Value)} {oc_Frame_may_go_on kV_Frame_may_go_on dc_Frame_may_go_on pm_Frame_may_go_on cd_Frame_may_go_on ct_Frame_may_go_on : Value}
    {f_Frame_is_complete : Addr} {od_Frame_is_complete an_Frame_is_complete : Option Addr} {sl_Frame_is_complete : Array (Option Value)} {oc_Frame_is_complete kV_Frame_is_complete dc_Frame_is_complete pm_Frame_is_complete cd_Frame_is_complete ct_Frame_is_complete : Value}
    {f_Frame_whole : Addr} {od_Frame_whole an_Frame_whole : Option Addr} {sl_Frame_whole : Array (Option Value)} {oc_Frame_whole kV_Frame_whole dc_Frame_whole pm_Frame_whole cd_Frame_whole ct_Frame_whole : Value}
    {C_Reader : Addr}
    {f_Reader_init : Addr} {od_Reader_init an_Reader_init : Option Addr} {sl_Reader_init : Array (Option Value)} {oc_Reader_init kV_Reader_init dc_Reader_init pm_Reader_init cd_Reader_init ct_Reader_init : Value}
    {f_Reader_keep : Addr} {od_Reader_keep an_Reader_keep : Option Addr} {sl_Reader_keep : Array (Option Value)} {oc_Reader_keep kV_Reader_keep dc_Reader_keep pm_Reader_keep cd_Reader_keep ct_Reader_keep : Value}
    {f_Reader_shut : Addr} {od_Reader_shut an_Reader_shut : Option Addr} {sl_Reader_shut : Array (Option Value)} {oc_Reader_shut kV_Reader_shut dc_Reader_shut pm_Reader_shut cd_Reader_shut ct_Reader_shut : Value}
    {f_Reader_go_on : Addr} {od_Reader_go_on an_Reader_go_on : Option Addr} {sl_Reader_go_on : Array (Option Value)} {oc_Reader_go_on kV_Reader_go_on dc_Reader_go_on pm_Reader_go_on cd_Reader_go_on ct_Reader_go_on : Value}
    {f_Reader_take_head : Addr} {od_Reader_take_head an_Reader_take_head : Option Addr} {sl_Reader_take_head : Array (Option Value)} {oc_Reader_take_head kV_Reader_take_head dc_Reader_take_head pm_Reader_take_head cd_Reader_take_head ct_Reader_take_head : Value}
    {f_Reader_take : Addr} {od_Reader_take an_Reader_take : Option Addr} {sl_Reader_take : Array (Option Value)} {oc_Reader_take kV_Reader_take dc_Reader_take pm_Reader_take cd_Reader_take ct_Reader_take : Value}
    {C_SpareError : Addr}
    {C_BadText : Addr}
    {fI_BadText cda_BadText cc_BadText N_BadText : Addr} {nm_BadText q_BadText : Str} {bs_BadText bm_BadText sub_BadText : List Value} {sn_BadText : List Str} {ab_BadText : Bool} {col_BadText : Option Bool} {dd_BadText od_BadText an_BadText cdd_BadText cld_BadText : Option Addr} {k0_BadText k1_BadText k2_BadText k3_BadText k5_BadText : Option Value}
    {oc_BadText kV_BadText doc_BadText pm_BadText ct_BadText ccl_BadText cl_BadText : Value} {osl_BadText ccs_BadText csl_BadText : Array (Option Value)} {vs_BadText : Array Value} {file_BadText : Str} {tf_BadText : Tok}
    (X : K.In h) (G : h.Ns mainGlobals mg) (hfa : mg "law" = some (.ref fa))
    (a_is_word : PySem.W.nsIn K mainGlobals "is_word" = some (some (.ref f_is_word)))
    (l_is_word : K.lookup f_is_word = some ⟨oc_is_word, od_is_word, .func (PySem.W.fnOf "is_word" "is_word" (defArgs s_is_word) (defBody s_is_word) (defScope s_is_word) .none kV_is_word dc_is_word pm_is_word an_is_word cd_is_word ct_is_word), sl_is_word⟩)
    (c_is_word : PySem.W.codeIn K cd_is_word "is_word" = true)
    (k_is_word : PySem.W.keepIn K (.ref f_is_word) = true)
    (a_is_name : PySem.W.nsIn K mainGlobals "is_name" = some (some (.ref f_is_name)))
    (l_is_name : K.lookup f_is_name = some ⟨oc_is_name, od_is_name, .func (PySem.W.fnOf "is_name" "is_name" (defArgs s_is_name) (defBody s_is_name) (defScope s_is_name) .none kV_is_name dc_is_name pm_is_name an_is_name cd_is_name ct_is_name), sl_is_name⟩)
    (c_is_name : PySem.W.codeIn K cd_is_name "is_name" = true)
    (k_is_name : PySem.W.keepIn K (.ref f_is_name) = true)
    (a_are_different : PySem.W.nsIn K mainGlobals "are_different" = some (some (.ref f_are_different)))
    (l_are_different : K.lookup f_are_different = some ⟨oc_are_different, od_are_different, .func (PySem.W.fnOf "are_different" "are_different" (defArgs s_are_different) (defBody s_are_different) (defScope s_are_different) .none kV_are_different dc_are_different pm_are_different an_are_different cd_are_different ct_are_different), sl_are_different⟩)
    (c_are_different : PySem.W.codeIn K cd_are_different "are_different" = true)
    (k_are_different : PySem.W.keepIn K (.ref f_are_different) = true)
    (a_are_names : PySem.W.nsIn K mainGlobals "are_names" = some (some (.ref f_are_names)))
    (l_are_names : K.lookup f_are_names = some ⟨oc_are_names, od_are_names, .func (PySem.W.fnOf "are_names" "are_names" (defArgs s_are_names) (defBody s_are_names) (defScope s_are_names) .none kV_are_names dc_are_names pm_are_names an_are_names cd_are_names ct_are_names), sl_are_names⟩)
    (c_are_names : PySem.W.codeIn K cd_are_names "are_names" = true)
    (k_are_names : PySem.W.keepIn K (.ref f_are_names) = true)
    (a_are_pairs : PySem.W.nsIn K mainGlobals "are_pairs" = some (some (.ref f_are_pairs)))
    (l_are_pairs : K.lookup f_are_pairs = some ⟨oc_are_pairs, od_are_pairs, .func (PySem.W.fnOf "are_pairs" "are_pairs" (defArgs s_are_pairs) (defBody s_are_pairs) (defScope s_are_pairs) .none kV_are_pairs dc_are_pairs pm_are_pairs an_are_pairs cd_are_pairs ct_are_pairs), sl_are_pairs⟩)
    (c_are_pairs : PySem.W.codeIn K cd_are_pairs "are_pairs" = true)
    (k_are_pairs : PySem.W.keepIn K (.ref f_are_pairs) = true)
    (a_read_module : PySem.W.nsIn K mainGlobals "read_module" = some (some (.ref f_read_module)))
    (l_read_module : K.lookup f_read_module = some ⟨oc_read_module, od_read_module, .func (PySem.W.fnOf "read_module" "read_module" (defArgs s_read_module) (defBody s_read_module) (defScope s_read_module) .none kV_read_module dc_read_module pm_read_module an_read_module cd_read_module ct_read_module), sl_read_module⟩)
    (c_read_module : PySem.W.codeIn K cd_read_module "read_module" = true)
    (k_read_module : PySem.W.keepIn K (.ref f_read_module) = true)
    (a_law_begun : PySem.W.nsIn K mainGlobals "_law_begun" = some (some (.ref f_law_begun)))
    (l_law_begun : K.lookup f_law_begun = some ⟨oc_law_begun, od_law_begun, .func (PySem.W.fnOf "_law_begun" "_law_begun" (defArgs s_law_begun) (defBody s_law_begun) (defScope s_law_begun) .none kV_law_begun dc_law_begun pm_law_begun an_law_begun cd_law_begun ct_law_begun), sl_law_begun⟩)
    (c_law_begun : PySem.W.codeIn K cd_law_begun "_law_begun" = true)
    (k_law_begun : PySem.W.keepIn K (.ref f_law_begun) = true)
    (a_law_mixed : PySem.W.nsIn K mainGlobals "_law_mixed" = some (some (.ref f_law_mixed)))
    (l_law_mixed : K.lookup f_law_mixed = some ⟨oc_law_mixed, od_law_mixed, .func (PySem.W.fnOf "_law_mixed" "_law_mixed" (defArgs s_law_mixed) (defBody s_law_mixed) (defScope s_law_mixed) .none kV_law_mixed dc_law_mixed pm_law_mixed an_law_mixed cd_law_mixed ct_law_mixed), sl_law_mixed⟩)
    (c_law_mixed : PySem.W.codeIn K cd_law_mixed "_law_mixed" = true)
    (k_law_mixed : PySem.W.keepIn K (.ref f_law_mixed) = true)
    (a_law_take : PySem.W.nsIn K mainGlobals "_law_take" = some (some (.ref f_law_take)))
    (l_law_take : K.lookup f_law_take = some ⟨oc_law_take, od_law_take, .func (PySem.W.fnOf "_law_take" "_law_take" (defArgs s_law_take) (defBody s_law_take) (defScope s_law_take) .none kV_law_take dc_law_take pm_law_take an_law_take cd_law_take ct_law_take), sl_law_take⟩)
    (c_law_take : PySem.W.codeIn K cd_law_take "_law_take" = true)
    (k_law_take : PySem.W.keepIn K (.ref f_law_take) = true)
    (a_law_pick : PySem.W.nsIn K mainGlobals "_law_pick" = some (some (.ref f_law_pick)))
    (l_law_pick : K.lookup f_law_pick = some ⟨oc_law_pick, od_law_pick, .func (PySem.W.fnOf "_law_pick" "_law_pick" (defArgs s_law_pick) (defBody s_law_pick) (defScope s_law_pick) .none kV_law_pick dc_law_pick pm_law_pick an_law_pick cd_law_pick ct_law_pick), sl_law_pick⟩)
    (c_law_pick : PySem.W.codeIn K cd_law_pick "_law_pick" = true)
    (k_law_pick : PySem.W.keepIn K (.ref f_law_pick) = true)
    (a_law_reserved : PySem.W.nsIn K mainGlobals "_law_reserved" = some (some (.ref f_law_reserved)))
    (l_law_reserved : K.lookup f_law_reserved = some ⟨oc_law_reserved, od_law_reserved, .func (PySem.W.fnOf "_law_reserved" "_law_reserved" (defArgs s_law_reserved) (defBody s_law_reserved) (defScope s_law_reserved) .none kV_law_reserved dc_law_reserved pm_law_reserved an_law_reserved cd_law_reserved ct_law_reserved), sl_law_reserved⟩)
    (c_law_reserved : PySem.W.codeIn K cd_law_reserved "_law_reserved" = true)
    (k_law_reserved : PySem.W.keepIn K (.ref f_law_reserved) = true)
    (a_law_told : PySem.W.nsIn K mainGlobals "_law_told" = some (some (.ref f_law_told)))
    (l_law_told : K.lookup f_law_told = some ⟨oc_law_told, od_law_told, .func (PySem.W.fnOf "_law_told" "_law_told" (defArgs s_law_told) (defBody s_law_told) (defScope s_law_told) .none kV_law_told dc_law_told pm_law_told an_law_told cd_law_told ct_law_told), sl_law_told⟩)
    (c_law_told : PySem.W.codeIn K cd_law_told "_law_told" = true)
    (k_law_told : PySem.W.keepIn K (.ref f_law_told) = true)
    (a_law_near : PySem.W.nsIn K mainGlobals "_law_near" = some (some (.ref f_law_near)))
    (l_law_near : K.lookup f_law_near = some ⟨oc_law_near, od_law_near, .func (PySem.W.fnOf "_law_near" "_law_near" (defArgs s_law_near) (defBody s_law_near) (defScope s_law_near) .none kV_law_near dc_law_near pm_law_near an_law_near cd_law_near ct_law_near), sl_law_near⟩)
    (c_law_near : PySem.W.codeIn K cd_law_near "_law_near" = true)
    (k_law_near : PySem.W.keepIn K (.ref f_law_near) = true)
    (a_law_item_line : PySem.W.nsIn K mainGlobals "_law_item_line" = some (some (.ref f_law_item_line)))
    (l_law_item_line : K.lookup f_law_item_line = some ⟨oc_law_item_line, od_law_item_line, .func (PySem.W.fnOf "_law_item_line" "_law_item_line" (defArgs s_law_item_line) (defBody s_law_item_line) (defScope s_law_item_line) .none kV_law_item_line dc_law_item_line pm_law_item_line an_law_item_line cd_law_item_line ct_law_item_line), sl_law_item_line⟩)
    (c_law_item_line : PySem.W.codeIn K cd_law_item_line "_law_item_line" = true)
    (k_law_item_line : PySem.W.keepIn K (.ref f_law_item_line) = true)
    (a_law_row_line : PySem.W.nsIn K mainGlobals "_law_row_line" = some (some (.ref f_law_row_line)))
    (l_law_row_line : K.lookup f_law_row_line = some ⟨oc_law_row_line, od_law_row_line, .func (PySem.W.fnOf "_law_row_line" "_law_row_line" (defArgs s_law_row_line) (defBody s_law_row_line) (defScope s_law_row_line) .none kV_law_row_line dc_law_row_line pm_law_row_line an_law_row_line cd_law_row_line ct_law_row_line), sl_law_row_line⟩)
    (c_law_row_line : PySem.W.codeIn K cd_law_row_line "_law_row_line" = true)
    (k_law_row_line : PySem.W.keepIn K (.ref f_law_row_line) = true)
    (a_law_block_line : PySem.W.nsIn K mainGlobals "_law_block_line" = some (some (.ref f_law_block_line)))
    (l_law_block_line : K.lookup f_law_block_line = some ⟨oc_law_block_line, od_law_block_line, .func (PySem.W.fnOf "_law_block_line" "_law_block_line" (defArgs s_law_block_line) (defBody s_law_block_line) (defScope s_law_block_line) .none kV_law_block_line dc_law_block_line pm_law_block_line an_law_block_line cd_law_block_line ct_law_block_line), sl_law_block_line⟩)
    (c_law_block_line : PySem.W.codeIn K cd_law_block_line "_law_block_line" = true)
    (k_law_block_line : PySem.W.keepIn K (.ref f_law_block_line) = true)
    (a_law : PySem.W.nsIn K mainGlobals "law" = some (some (.ref f_law)))
    (l_law : K.lookup f_law = some ⟨oc_law, od_law, .func (PySem.W.fnOf "law" "law" (defArgs s_law) (defBody s_law) (defScope s_law) .none kV_law dc_law pm_law an_law cd_law ct_law), sl_law⟩)
    (c_law : PySem.W.codeIn K cd_law "law" = true)
    (k_law : PySem.W.keepIn K (.ref f_law) = true)
    (n_LETTERS : PySem.W.nsIn K mainGlobals "LETTERS" = some (some (.str "abcdefghijklmnopqrstuvwxyz" t_LETTERS)))
    (n_SIGNS : PySem.W.nsIn K mainGlobals "SIGNS" = some (some (.str "abcdefghijklmnopqrstuvwxyz0123456789_" t_SIGNS)))
    (n_MOST_SIGNS : PySem.W.nsIn K mainGlobals "MOST_SIGNS" = some (some (.int 8 t_MOST_SIGNS)))
    (n_RESERVED : PySem.W.nsIn K mainGlobals "RESERVED" = some (some (.ref a_RESERVED)))
    (l_RESERVED : K.lookup a_RESERVED = some ⟨.type "tuple", od_RESERVED, .seq us_RESERVED.toArray nn_RESERVED, sl_RESERVED⟩)
    (s_RESERVED : us_RESERVED.length ≤ 1000)
    (v_RESERVED : Vals [V.str "as", V.str "ask", V.str "call", V.str "def", V.str "each", V.str "else", V.str "entry", V.str "except", V.str "fail", V.str "if", V.str "in", V.str "let", V.str "offer", V.str "return", V.str "set", V.str "table", V.str "there", V.str "try", V.str "use"] us_RESERVED)
    (n_MOST_PARTS : PySem.W.nsIn K mainGlobals "MOST_PARTS" = some (some (.int 4 t_MOST_PARTS)))
    (n_MOST_GIVEN : PySem.W.nsIn K mainGlobals "MOST_GIVEN" = some (some (.int 3 t_MOST_GIVEN)))
    (n_MOST_PAIRS : PySem.W.nsIn K mainGlobals "MOST_PAIRS" = some (some (.int 12 t_MOST_PAIRS)))
    (n_MOST_LEVELS : PySem.W.nsIn K mainGlobals "MOST_LEVELS" = some (some (.int 4 t_MOST_LEVELS)))
    (n_STEP : PySem.W.nsIn K mainGlobals "STEP" = some (some (.int 4 t_STEP)))
    (n_BINDERS : PySem.W.nsIn K mainGlobals "BINDERS" = some (some (.ref a_BINDERS)))
    (l_BINDERS : K.lookup a_BINDERS = some ⟨.type "tuple", od_BINDERS, .seq us_BINDERS.toArray nn_BINDERS, sl_BINDERS⟩)
    (s_BINDERS : us_BINDERS.length ≤ 1000)
    (v_BINDERS : Vals [V.str "use", V.str "set", V.str "table", V.str "def"] us_BINDERS)
    (n_OPENERS : PySem.W.nsIn K mainGlobals "OPENERS" = some (some (.ref a_OPENERS)))
    (l_OPENERS : K.lookup a_OPENERS = some ⟨.type "tuple", od_OPENERS, .seq us_OPENERS.toArray nn_OPENERS, sl_OPENERS⟩)
    (s_OPENERS : us_OPENERS.length ≤ 1000)
    (v_OPENERS : Vals [V.str "def", V.str "if", V.str "there", V.str "each", V.str "try"] us_OPENERS)
    (n_SECONDS : PySem.W.nsIn K mainGlobals "SECONDS" = some (some (.ref a_SECONDS)))
    (l_SECONDS : K.lookup a_SECONDS = some ⟨.type "dict", none, .dict es_SECONDS nn_SECONDS, #[]⟩)
    (lo_SECONDS : (a_SECONDS == sysModules) = false)
    (kl_SECONDS : PySem.W.KeysLit w.params es_SECONDS.toList)
    (k_SECONDS_0 : PySem.W.nsIn K a_SECONDS "if" = some (some (.str "else:" t_SECONDS_0)))
    (k_SECONDS_1 : PySem.W.nsIn K a_SECONDS "there" = some (some (.str "else:" t_SECONDS_1)))
    (k_SECONDS_2 : PySem.W.nsIn K a_SECONDS "try" = some (some (.str "except:" t_SECONDS_2)))
    (m_SECONDS_0 : PySem.W.nsIn K a_SECONDS "def" = some none)
    (m_SECONDS_1 : PySem.W.nsIn K a_SECONDS "each" = some none)
    (n_SECOND_LINES : PySem.W.nsIn K mainGlobals "SECOND_LINES" = some (some (.ref a_SECOND_LINES)))
    (l_SECOND_LINES : K.lookup a_SECOND_LINES = some ⟨.type "tuple", od_SECOND_LINES, .seq us_SECOND_LINES.toArray nn_SECOND_LINES, sl_SECOND_LINES⟩)
    (s_SECOND_LINES : us_SECOND_LINES.length ≤ 1000)
    (v_SECOND_LINES : Vals [V.str "else:", V.str "except:"] us_SECOND_LINES)
    (z_super : PySem.W.nsIn K mainGlobals "super" = some none)
    (z_isinstance : PySem.W.nsIn K mainGlobals "isinstance" = some none)
    (z_str : PySem.W.nsIn K mainGlobals "str" = some none)
    (z_all : PySem.W.nsIn K mainGlobals "all" = some none)
    (z_len : PySem.W.nsIn K mainGlobals "len" = some none)
    (z_tuple : PySem.W.nsIn K mainGlobals "tuple" = some none)
    (z_divmod : PySem.W.nsIn K mainGlobals "divmod" = some none)
    (z_enumerate : PySem.W.nsIn K mainGlobals "enumerate" = some none)
    (z_list : PySem.W.nsIn K mainGlobals "list" = some none)
    (z_int : PySem.W.nsIn K mainGlobals "int" = some none)
    (z_max : PySem.W.nsIn K mainGlobals "max" = some none)
    (z_range : PySem.W.nsIn K mainGlobals "range" = some none)
    (z_min : PySem.W.nsIn K mainGlobals "min" = some none)
    (z_repr : PySem.W.nsIn K mainGlobals "repr" = some none)
    (a_Scanner : PySem.W.nsIn K mainGlobals "Scanner" = some (some (.ref C_Scanner)))
    (pg_Scanner : PySem.W.plainGet K C_Scanner Str.empty = true)
    (hd_Scanner : PySem.W.hasDictIn K C_Scanner = true)
    (po_Scanner : PySem.W.plainOver K C_Scanner = true)
    (sa_Scanner : PySem.W.findIn K (.ref C_Scanner) "__setattr__" = some (some (.builtin "object.__setattr__")))
    (mk_Scanner : PySem.W.makesIn K C_Scanner = true)
    (kc_Scanner : PySem.W.keepIn K (.ref C_Scanner) = true)
    (sf_Scanner : PySem.W.selfFirst K C_Scanner = true)
    (ih_Scanner : PySem.W.findIn K (.ref C_Scanner) "__class__" = some (some (.builtin "object.__class__")))
    (im_Scanner : PySem.W.mroIn K C_Scanner (.type "object") = some true)
    (ne_Scanner : PySem.W.findIn K (.ref C_Scanner) "__ne__" = some (some (.builtin "object.__ne__")))
    (ty_Scanner : PySem.W.typeIn K (.ref C_Scanner) = some (.type "type"))
    (in_Scanner : PySem.W.specialIn K (.builtin "object.__class__") "__get__" = some (some (.builtin "getset_descriptor.__get__")))
    (it_Scanner : PySem.W.takesIn K (.builtin "object.__class__") = some true)
    (at_Scanner_line : PySem.W.findIn K (.ref C_Scanner) "line" = some none)
    (at_Scanner_spot : PySem.W.findIn K (.ref C_Scanner) "spot" = some none)
    (a_Scanner_init : PySem.W.findIn K (.ref C_Scanner) "__init__" = some (some (.ref f_Scanner_init)))
    (i_Scanner_init : PySem.W.isFn K (.ref f_Scanner_init) = true)
    (l_Scanner_init : K.lookup f_Scanner_init = some ⟨oc_Scanner_init, od_Scanner_init, .func (PySem.W.fnOf "__init__" "Scanner.__init__" (defArgs s_Scanner_init) (defBody s_Scanner_init) (defScope s_Scanner_init) .none kV_Scanner_init dc_Scanner_init pm_Scanner_init an_Scanner_init cd_Scanner_init ct_Scanner_init), sl_Scanner_init⟩)
    (c_Scanner_init : PySem.W.codeIn K cd_Scanner_init "Scanner.__init__" = true)
    (k_Scanner_init : PySem.W.keepIn K (.ref f_Scanner_init) = true)
    (a_Scanner_rest : PySem.W.findIn K (.ref C_Scanner) "rest" = some (some (.ref f_Scanner_rest)))
    (i_Scanner_rest : PySem.W.isFn K (.ref f_Scanner_rest) = true)
    (l_Scanner_rest : K.lookup f_Scanner_rest = some ⟨oc_Scanner_rest, od_Scanner_rest, .func (PySem.W.fnOf "rest" "Scanner.rest" (defArgs s_Scanner_rest) (defBody s_Scanner_rest) (defScope s_Scanner_rest) .none kV_Scanner_rest dc_Scanner_rest pm_Scanner_rest an_Scanner_rest cd_Scanner_rest ct_Scanner_rest), sl_Scanner_rest⟩)
    (c_Scanner_rest : PySem.W.codeIn K cd_Scanner_rest "Scanner.rest" = true)
    (k_Scanner_rest : PySem.W.keepIn K (.ref f_Scanner_rest) = true)
    (a_Scanner_take : PySem.W.findIn K (.ref C_Scanner) "take" = some (some (.ref f_Scanner_take)))
    (i_Scanner_take : PySem.W.isFn K (.ref f_Scanner_take) = true)
    (l_Scanner_take : K.lookup f_Scanner_take = some ⟨oc_Scanner_take, od_Scanner_take, .func (PySem.W.fnOf "take" "Scanner.take" (defArgs s_Scanner_take) (defBody s_Scanner_take) (defScope s_Scanner_take) .none kV_Scanner_take dc_Scanner_take pm_Scanner_take an_Scanner_take cd_Scanner_take ct_Scanner_take), sl_Scanner_take⟩)
    (c_Scanner_take : PySem.W.codeIn K cd_Scanner_take "Scanner.take" = true)
    (k_Scanner_take : PySem.W.keepIn K (.ref f_Scanner_take) = true)
    (a_Scanner_word : PySem.W.findIn K (.ref C_Scanner) "word" = some (some (.ref f_Scanner_word)))
    (i_Scanner_word : PySem.W.isFn K (.ref f_Scanner_word) = true)
    (l_Scanner_word : K.lookup f_Scanner_word = some ⟨oc_Scanner_word, od_Scanner_word, .func (PySem.W.fnOf "word" "Scanner.word" (defArgs s_Scanner_word) (defBody s_Scanner_word) (defScope s_Scanner_word) .none kV_Scanner_word dc_Scanner_word pm_Scanner_word an_Scanner_word cd_Scanner_word ct_Scanner_word), sl_Scanner_word⟩)
    (c_Scanner_word : PySem.W.codeIn K cd_Scanner_word "Scanner.word" = true)
    (k_Scanner_word : PySem.W.keepIn K (.ref f_Scanner_word) = true)
    (a_Scanner_next_name : PySem.W.findIn K (.ref C_Scanner) "next_name" = some (some (.ref f_Scanner_next_name)))
    (i_Scanner_next_name : PySem.W.isFn K (.ref f_Scanner_next_name) = true)
    (l_Scanner_next_name : K.lookup f_Scanner_next_name = some ⟨oc_Scanner_next_name, od_Scanner_next_name, .func (PySem.W.fnOf "next_name" "Scanner.next_name" (defArgs s_Scanner_next_name) (defBody s_Scanner_next_name) (defScope s_Scanner_next_name) .none kV_Scanner_next_name dc_Scanner_next_name pm_Scanner_next_name an_Scanner_next_name cd_Scanner_next_name ct_Scanner_next_name), sl_Scanner_next_name⟩)
    (c_Scanner_next_name : PySem.W.codeIn K cd_Scanner_next_name "Scanner.next_name" = true)
    (k_Scanner_next_name : PySem.W.keepIn K (.ref f_Scanner_next_name) = true)
    (a_Scanner_quoted : PySem.W.findIn K (.ref C_Scanner) "quoted" = some (some (.ref f_Scanner_quoted)))
    (i_Scanner_quoted : PySem.W.isFn K (.ref f_Scanner_quoted) = true)
    (l_Scanner_quoted : K.lookup f_Scanner_quoted = some ⟨oc_Scanner_quoted, od_Scanner_quoted, .func (PySem.W.fnOf "quoted" "Scanner.quoted" (defArgs s_Scanner_quoted) (defBody s_Scanner_quoted) (defScope s_Scanner_quoted) .none kV_Scanner_quoted dc_Scanner_quoted pm_Scanner_quoted an_Scanner_quoted cd_Scanner_quoted ct_Scanner_quoted), sl_Scanner_quoted⟩)
    (c_Scanner_quoted : PySem.W.codeIn K cd_Scanner_quoted "Scanner.quoted" = true)
    (k_Scanner_quoted : PySem.W.keepIn K (.ref f_Scanner_quoted) = true)
    (a_Scanner_part : PySem.W.findIn K (.ref C_Scanner) "part" = some (some (.ref f_Scanner_part)))
    (i_Scanner_part : PySem.W.isFn K (.ref f_Scanner_part) = true)
    (l_Scanner_part : K.lookup f_Scanner_part = some ⟨oc_Scanner_part, od_Scanner_part, .func (PySem.W.fnOf "part" "Scanner.part" (defArgs s_Scanner_part) (defBody s_Scanner_part) (defScope s_Scanner_part) .none kV_Scanner_part dc_Scanner_part pm_Scanner_part an_Scanner_part cd_Scanner_part ct_Scanner_part), sl_Scanner_part⟩)
    (c_Scanner_part : PySem.W.codeIn K cd_Scanner_part "Scanner.part" = true)
    (k_Scanner_part : PySem.W.keepIn K (.ref f_Scanner_part) = true)
    (a_Scanner_expr : PySem.W.findIn K (.ref C_Scanner) "expr" = some (some (.ref f_Scanner_expr)))
    (i_Scanner_expr : PySem.W.isFn K (.ref f_Scanner_expr) = true)
    (l_Scanner_expr : K.lookup f_Scanner_expr = some ⟨oc_Scanner_expr, od_Scanner_expr, .func (PySem.W.fnOf "expr" "Scanner.expr" (defArgs s_Scanner_expr) (defBody s_Scanner_expr) (defScope s_Scanner_expr) .none kV_Scanner_expr dc_Scanner_expr pm_Scanner_expr an_Scanner_expr cd_Scanner_expr ct_Scanner_expr), sl_Scanner_expr⟩)
    (c_Scanner_expr : PySem.W.codeIn K cd_Scanner_expr "Scanner.expr" = true)
    (k_Scanner_expr : PySem.W.keepIn K (.ref f_Scanner_expr) = true)
    (a_Scanner_built : PySem.W.findIn K (.ref C_Scanner) "built" = some (some (.ref f_Scanner_built)))
    (i_Scanner_built : PySem.W.isFn K (.ref f_Scanner_built) = true)
    (l_Scanner_built : K.lookup f_Scanner_built = some ⟨oc_Scanner_built, od_Scanner_built, .func (PySem.W.fnOf "built" "Scanner.built" (defArgs s_Scanner_built) (defBody s_Scanner_built) (defScope s_Scanner_built) .none kV_Scanner_built dc_Scanner_built pm_Scanner_built an_Scanner_built cd_Scanner_built ct_Scanner_built), sl_Scanner_built⟩)
    (c_Scanner_built : PySem.W.codeIn K cd_Scanner_built "Scanner.built" = true)
    (k_Scanner_built : PySem.W.keepIn K (.ref f_Scanner_built) = true)
    (a_Scanner_target : PySem.W.findIn K (.ref C_Scanner) "target" = some (some (.ref f_Scanner_target)))
    (i_Scanner_target : PySem.W.isFn K (.ref f_Scanner_target) = true)
    (l_Scanner_target : K.lookup f_Scanner_target = some ⟨oc_Scanner_target, od_Scanner_target, .func (PySem.W.fnOf "target" "Scanner.target" (defArgs s_Scanner_target) (defBody s_Scanner_target) (defScope s_Scanner_target) .none kV_Scanner_target dc_Scanner_target pm_Scanner_target an_Scanner_target cd_Scanner_target ct_Scanner_target), sl_Scanner_target⟩)
    (c_Scanner_target : PySem.W.codeIn K cd_Scanner_target "Scanner.target" = true)
    (k_Scanner_target : PySem.W.keepIn K (.ref f_Scanner_target) = true)
    (a_Scanner_listed : PySem.W.findIn K (.ref C_Scanner) "listed" = some (some (.ref f_Scanner_listed)))
    (i_Scanner_listed : PySem.W.isFn K (.ref f_Scanner_listed) = true)
    (l_Scanner_listed : K.lookup f_Scanner_listed = some ⟨oc_Scanner_listed, od_Scanner_listed, .func (PySem.W.fnOf "listed" "Scanner.listed" (defArgs s_Scanner_listed) (defBody s_Scanner_listed) (defScope s_Scanner_listed) .none kV_Scanner_listed dc_Scanner_listed pm_Scanner_listed an_Scanner_listed cd_Scanner_listed ct_Scanner_listed), sl_Scanner_listed⟩)
    (c_Scanner_listed : PySem.W.codeIn K cd_Scanner_listed "Scanner.listed" = true)
    (k_Scanner_listed : PySem.W.keepIn K (.ref f_Scanner_listed) = true)
    (a_Scanner_call : PySem.W.findIn K (.ref C_Scanner) "call" = some (some (.ref f_Scanner_call)))
    (i_Scanner_call : PySem.W.isFn K (.ref f_Scanner_call) = true)
    (l_Scanner_call : K.lookup f_Scanner_call = some ⟨oc_Scanner_call, od_Scanner_call, .func (PySem.W.fnOf "call" "Scanner.call" (defArgs s_Scanner_call) (defBody s_Scanner_call) (defScope s_Scanner_call) .none kV_Scanner_call dc_Scanner_call pm_Scanner_call an_Scanner_call cd_Scanner_call ct_Scanner_call), sl_Scanner_call⟩)
    (c_Scanner_call : PySem.W.codeIn K cd_Scanner_call "Scanner.call" = true)
    (k_Scanner_call : PySem.W.keepIn K (.ref f_Scanner_call) = true)
    (a_Scanner_let : PySem.W.findIn K (.ref C_Scanner) "let" = some (some (.ref f_Scanner_let)))
    (i_Scanner_let : PySem.W.isFn K (.ref f_Scanner_let) = true)
    (l_Scanner_let : K.lookup f_Scanner_let = some ⟨oc_Scanner_let, od_Scanner_let, .func (PySem.W.fnOf "let" "Scanner.let" (defArgs s_Scanner_let) (defBody s_Scanner_let) (defScope s_Scanner_let) .none kV_Scanner_let dc_Scanner_let pm_Scanner_let an_Scanner_let cd_Scanner_let ct_Scanner_let), sl_Scanner_let⟩)
    (c_Scanner_let : PySem.W.codeIn K cd_Scanner_let "Scanner.let" = true)
    (k_Scanner_let : PySem.W.keepIn K (.ref f_Scanner_let) = true)
    (a_Scanner_choice : PySem.W.findIn K (.ref C_Scanner) "choice" = some (some (.ref f_Scanner_choice)))
    (i_Scanner_choice : PySem.W.isFn K (.ref f_Scanner_choice) = true)
    (l_Scanner_choice : K.lookup f_Scanner_choice = some ⟨oc_Scanner_choice, od_Scanner_choice, .func (PySem.W.fnOf "choice" "Scanner.choice" (defArgs s_Scanner_choice) (defBody s_Scanner_choice) (defScope s_Scanner_choice) .none kV_Scanner_choice dc_Scanner_choice pm_Scanner_choice an_Scanner_choice cd_Scanner_choice ct_Scanner_choice), sl_Scanner_choice⟩)
    (c_Scanner_choice : PySem.W.codeIn K cd_Scanner_choice "Scanner.choice" = true)
    (k_Scanner_choice : PySem.W.keepIn K (.ref f_Scanner_choice) = true)
    (a_Scanner_statement : PySem.W.findIn K (.ref C_Scanner) "statement" = some (some (.ref f_Scanner_statement)))
    (i_Scanner_statement : PySem.W.isFn K (.ref f_Scanner_statement) = true)
    (l_Scanner_statement : K.lookup f_Scanner_statement = some ⟨oc_Scanner_statement, od_Scanner_statement, .func (PySem.W.fnOf "statement" "Scanner.statement" (defArgs s_Scanner_statement) (defBody s_Scanner_statement) (defScope s_Scanner_statement) .none kV_Scanner_statement dc_Scanner_statement pm_Scanner_statement an_Scanner_statement cd_Scanner_statement ct_Scanner_statement), sl_Scanner_statement⟩)
    (c_Scanner_statement : PySem.W.codeIn K cd_Scanner_statement "Scanner.statement" = true)
    (k_Scanner_statement : PySem.W.keepIn K (.ref f_Scanner_statement) = true)
    (a_Scanner_used : PySem.W.findIn K (.ref C_Scanner) "used" = some (some (.ref f_Scanner_used)))
    (i_Scanner_used : PySem.W.isFn K (.ref f_Scanner_used) = true)
    (l_Scanner_used : K.lookup f_Scanner_used = some ⟨oc_Scanner_used, od_Scanner_used, .func (PySem.W.fnOf "used" "Scanner.used" (defArgs s_Scanner_used) (defBody s_Scanner_used) (defScope s_Scanner_used) .none kV_Scanner_used dc_Scanner_used pm_Scanner_used an_Scanner_used cd_Scanner_used ct_Scanner_used), sl_Scanner_used⟩)
    (c_Scanner_used : PySem.W.codeIn K cd_Scanner_used "Scanner.used" = true)
    (k_Scanner_used : PySem.W.keepIn K (.ref f_Scanner_used) = true)
    (a_Scanner_offered : PySem.W.findIn K (.ref C_Scanner) "offered" = some (some (.ref f_Scanner_offered)))
    (i_Scanner_offered : PySem.W.isFn K (.ref f_Scanner_offered) = true)
    (l_Scanner_offered : K.lookup f_Scanner_offered = some ⟨oc_Scanner_offered, od_Scanner_offered, .func (PySem.W.fnOf "offered" "Scanner.offered" (defArgs s_Scanner_offered) (defBody s_Scanner_offered) (defScope s_Scanner_offered) .none kV_Scanner_offered dc_Scanner_offered pm_Scanner_offered an_Scanner_offered cd_Scanner_offered ct_Scanner_offered), sl_Scanner_offered⟩)
    (c_Scanner_offered : PySem.W.codeIn K cd_Scanner_offered "Scanner.offered" = true)
    (k_Scanner_offered : PySem.W.keepIn K (.ref f_Scanner_offered) = true)
    (a_Scanner_keyed : PySem.W.findIn K (.ref C_Scanner) "keyed" = some (some (.ref f_Scanner_keyed)))
    (i_Scanner_keyed : PySem.W.isFn K (.ref f_Scanner_keyed) = true)
    (l_Scanner_keyed : K.lookup f_Scanner_keyed = some ⟨oc_Scanner_keyed, od_Scanner_keyed, .func (PySem.W.fnOf "keyed" "Scanner.keyed" (defArgs s_Scanner_keyed) (defBody s_Scanner_keyed) (defScope s_Scanner_keyed) .none kV_Scanner_keyed dc_Scanner_keyed pm_Scanner_keyed an_Scanner_keyed cd_Scanner_keyed ct_Scanner_keyed), sl_Scanner_keyed⟩)
    (c_Scanner_keyed : PySem.W.codeIn K cd_Scanner_keyed "Scanner.keyed" = true)
    (k_Scanner_keyed : PySem.W.keepIn K (.ref f_Scanner_keyed) = true)
    (a_Scanner_defined : PySem.W.findIn K (.ref C_Scanner) "defined" = some (some (.ref f_Scanner_defined)))
    (i_Scanner_defined : PySem.W.isFn K (.ref f_Scanner_defined) = true)
    (l_Scanner_defined : K.lookup f_Scanner_defined = some ⟨oc_Scanner_defined, od_Scanner_defined, .func (PySem.W.fnOf "defined" "Scanner.defined" (defArgs s_Scanner_defined) (defBody s_Scanner_defined) (defScope s_Scanner_defined) .none kV_Scanner_defined dc_Scanner_defined pm_Scanner_defined an_Scanner_defined cd_Scanner_defined ct_Scanner_defined), sl_Scanner_defined⟩)
    (c_Scanner_defined : PySem.W.codeIn K cd_Scanner_defined "Scanner.defined" = true)
    (k_Scanner_defined : PySem.W.keepIn K (.ref f_Scanner_defined) = true)
    (a_Scanner_item : PySem.W.findIn K (.ref C_Scanner) "item" = some (some (.ref f_Scanner_item)))
    (i_Scanner_item : PySem.W.isFn K (.ref f_Scanner_item) = true)
    (l_Scanner_item : K.lookup f_Scanner_item = some ⟨oc_Scanner_item, od_Scanner_item, .func (PySem.W.fnOf "item" "Scanner.item" (defArgs s_Scanner_item) (defBody s_Scanner_item) (defScope s_Scanner_item) .none kV_Scanner_item dc_Scanner_item pm_Scanner_item an_Scanner_item cd_Scanner_item ct_Scanner_item), sl_Scanner_item⟩)
    (c_Scanner_item : PySem.W.codeIn K cd_Scanner_item "Scanner.item" = true)
    (k_Scanner_item : PySem.W.keepIn K (.ref f_Scanner_item) = true)
    (a_Frame : PySem.W.nsIn K mainGlobals "Frame" = some (some (.ref C_Frame)))
    (pg_Frame : PySem.W.plainGet K C_Frame Str.empty = true)
    (hd_Frame : PySem.W.hasDictIn K C_Frame = true)
    (po_Frame : PySem.W.plainOver K C_Frame = true)
    (sa_Frame : PySem.W.findIn K (.ref C_Frame) "__setattr__" = some (some (.builtin "object.__setattr__")))
    (mk_Frame : PySem.W.makesIn K C_Frame = true)
    (kc_Frame : PySem.W.keepIn K (.ref C_Frame) = true)
    (sf_Frame : PySem.W.selfFirst K C_Frame = true)
    (ih_Frame : PySem.W.findIn K (.ref C_Frame) "__class__" = some (some (.builtin "object.__class__")))
    (im_Frame : PySem.W.mroIn K C_Frame (.type "object") = some true)
    (ne_Frame : PySem.W.findIn K (.ref C_Frame) "__ne__" = some (some (.builtin "object.__ne__")))
    (ty_Frame : PySem.W.typeIn K (.ref C_Frame) = some (.type "type"))
    (in_Frame : PySem.W.specialIn K (.builtin "object.__class__") "__get__" = some (some (.builtin "getset_descriptor.__get__")))
    (it_Frame : PySem.W.takesIn K (.builtin "object.__class__") = some true)
    (at_Frame_head : PySem.W.findIn K (.ref C_Frame) "head" = some none)
    (at_Frame_blocks : PySem.W.findIn K (.ref C_Frame) "blocks" = some none)
    (a_Frame_init : PySem.W.findIn K (.ref C_Frame) "__init__" = some (some (.ref f_Frame_init)))
    (i_Frame_init : PySem.W.isFn K (.ref f_Frame_init) = true)
    (l_Frame_init : K.lookup f_Frame_init = some ⟨oc_Frame_init, od_Frame_init, .func (PySem.W.fnOf "__init__" "Frame.__init__" (defArgs s_Frame_init) (defBody s_Frame_init) (defScope s_Frame_init) .none kV_Frame_init dc_Frame_init pm_Frame_init an_Frame_init cd_Frame_init ct_Frame_init), sl_Frame_init⟩)
    (c_Frame_init : PySem.W.codeIn K cd_Frame_init "Frame.__init__" = true)
    (k_Frame_init : PySem.W.keepIn K (.ref f_Frame_init) = true)
    (a_Frame_may_go_on : PySem.W.findIn K (.ref C_Frame) "may_go_on" = some (some (.ref f_Frame_may_go_on)))
    (i_Frame_may_go_on : PySem.W.isFn K (.ref f_Frame_may_go_on) = true)
    (l_Frame_may_go_on : K.lookup f_Frame_may_go_on = some ⟨oc_Frame_may_go_on, od_Frame_may_go_on, .func (PySem.W.fnOf "may_go_on" "Frame.may_go_on" (defArgs s_Frame_may_go_on) (defBody s_Frame_may_go_on) (defScope s_Frame_may_go_on) .none kV_Frame_may_go_on dc_Frame_may_go_on pm_Frame_may_go_on an_Frame_may_go_on cd_Frame_may_go_on ct_Frame_may_go_on), sl_Frame_may_go_on⟩)
    (c_Frame_may_go_on : PySem.W.codeIn K cd_Frame_may_go_on "Frame.may_go_on" = true)
    (k_Frame_may_go_on : PySem.W.keepIn K (.ref f_Frame_may_go_on) = true)
    (a_Frame_is_complete : PySem.W.findIn K (.ref C_Frame) "is_complete" = some (some (.ref f_Frame_is_complete)))
    (i_Frame_is_complete : PySem.W.isFn K (.ref f_Frame_is_complete) = true)
    (l_Frame_is_complete : K.lookup f_Frame_is_complete = some ⟨oc_Frame_is_complete, od_Frame_is_complete, .func (PySem.W.fnOf "is_complete" "Frame.is_complete" (defArgs s_Frame_is_complete) (defBody s_Frame_is_complete) (defScope s_Frame_is_complete) .none kV_Frame_is_complete dc_Frame_is_complete pm_Frame_is_complete an_Frame_is_complete cd_Frame_is_complete ct_Frame_is_complete), sl_Frame_is_complete⟩)
    (c_Frame_is_complete : PySem.W.codeIn K cd_Frame_is_complete "Frame.is_complete" = true)
    (k_Frame_is_complete : PySem.W.keepIn K (.ref f_Frame_is_complete) = true)
    (a_Frame_whole : PySem.W.findIn K (.ref C_Frame) "whole" = some (some (.ref f_Frame_whole)))
    (i_Frame_whole : PySem.W.isFn K (.ref f_Frame_whole) = true)
    (l_Frame_whole : K.lookup f_Frame_whole = some ⟨oc_Frame_whole, od_Frame_whole, .func (PySem.W.fnOf "whole" "Frame.whole" (defArgs s_Frame_whole) (defBody s_Frame_whole) (defScope s_Frame_whole) .none kV_Frame_whole dc_Frame_whole pm_Frame_whole an_Frame_whole cd_Frame_whole ct_Frame_whole), sl_Frame_whole⟩)
    (c_Frame_whole : PySem.W.codeIn K cd_Frame_whole "Frame.whole" = true)
    (k_Frame_whole : PySem.W.keepIn K (.ref f_Frame_whole) = true)
    (a_Reader : PySem.W.nsIn K mainGlobals "Reader" = some (some (.ref C_Reader)))
    (pg_Reader : PySem.W.plainGet K C_Reader Str.empty = true)
    (hd_Reader : PySem.W.hasDictIn K C_Reader = true)
    (po_Reader : PySem.W.plainOver K C_Reader = true)
    (sa_Reader : PySem.W.findIn K (.ref C_Reader) "__setattr__" = some (some (.builtin "object.__setattr__")))
    (mk_Reader : PySem.W.makesIn K C_Reader = true)
    (kc_Reader : PySem.W.keepIn K (.ref C_Reader) = true)
    (sf_Reader : PySem.W.selfFirst K C_Reader = true)
    (ih_Reader : PySem.W.findIn K (.ref C_Reader) "__class__" = some (some (.builtin "object.__class__")))
    (im_Reader : PySem.W.mroIn K C_Reader (.type "object") = some true)
    (ne_Reader : PySem.W.findIn K (.ref C_Reader) "__ne__" = some (some (.builtin "object.__ne__")))
    (ty_Reader : PySem.W.typeIn K (.ref C_Reader) = some (.type "type"))
    (in_Reader : PySem.W.specialIn K (.builtin "object.__class__") "__get__" = some (some (.builtin "getset_descriptor.__get__")))
    (it_Reader : PySem.W.takesIn K (.builtin "object.__class__") = some true)
    (at_Reader_kept : PySem.W.findIn K (.ref C_Reader) "kept" = some none)
    (at_Reader_bound : PySem.W.findIn K (.ref C_Reader) "bound" = some none)
    (at_Reader_frames : PySem.W.findIn K (.ref C_Reader) "frames" = some none)
    (a_Reader_init : PySem.W.findIn K (.ref C_Reader) "__init__" = some (some (.ref f_Reader_init)))
    (i_Reader_init : PySem.W.isFn K (.ref f_Reader_init) = true)
    (l_Reader_init : K.lookup f_Reader_init = some ⟨oc_Reader_init, od_Reader_init, .func (PySem.W.fnOf "__init__" "Reader.__init__" (defArgs s_Reader_init) (defBody s_Reader_init) (defScope s_Reader_init) .none kV_Reader_init dc_Reader_init pm_Reader_init an_Reader_init cd_Reader_init ct_Reader_init), sl_Reader_init⟩)
    (c_Reader_init : PySem.W.codeIn K cd_Reader_init "Reader.__init__" = true)
    (k_Reader_init : PySem.W.keepIn K (.ref f_Reader_init) = true)
    (a_Reader_keep : PySem.W.findIn K (.ref C_Reader) "keep" = some (some (.ref f_Reader_keep)))
    (i_Reader_keep : PySem.W.isFn K (.ref f_Reader_keep) = true)
    (l_Reader_keep : K.lookup f_Reader_keep = some ⟨oc_Reader_keep, od_Reader_keep, .func (PySem.W.fnOf "keep" "Reader.keep" (defArgs s_Reader_keep) (defBody s_Reader_keep) (defScope s_Reader_keep) .none kV_Reader_keep dc_Reader_keep pm_Reader_keep an_Reader_keep cd_Reader_keep ct_Reader_keep), sl_Reader_keep⟩)
    (c_Reader_keep : PySem.W.codeIn K cd_Reader_keep "Reader.keep" = true)
    (k_Reader_keep : PySem.W.keepIn K (.ref f_Reader_keep) = true)
    (a_Reader_shut : PySem.W.findIn K (.ref C_Reader) "shut" = some (some (.ref f_Reader_shut)))
    (i_Reader_shut : PySem.W.isFn K (.ref f_Reader_shut) = true)
    (l_Reader_shut : K.lookup f_Reader_shut = some ⟨oc_Reader_shut, od_Reader_shut, .func (PySem.W.fnOf "shut" "Reader.shut" (defArgs s_Reader_shut) (defBody s_Reader_shut) (defScope s_Reader_shut) .none kV_Reader_shut dc_Reader_shut pm_Reader_shut an_Reader_shut cd_Reader_shut ct_Reader_shut), sl_Reader_shut⟩)
    (c_Reader_shut : PySem.W.codeIn K cd_Reader_shut "Reader.shut" = true)
    (k_Reader_shut : PySem.W.keepIn K (.ref f_Reader_shut) = true)
    (a_Reader_go_on : PySem.W.findIn K (.ref C_Reader) "go_on" = some (some (.ref f_Reader_go_on)))
    (i_Reader_go_on : PySem.W.isFn K (.ref f_Reader_go_on) = true)
    (l_Reader_go_on : K.lookup f_Reader_go_on = some ⟨oc_Reader_go_on, od_Reader_go_on, .func (PySem.W.fnOf "go_on" "Reader.go_on" (defArgs s_Reader_go_on) (defBody s_Reader_go_on) (defScope s_Reader_go_on) .none kV_Reader_go_on dc_Reader_go_on pm_Reader_go_on an_Reader_go_on cd_Reader_go_on ct_Reader_go_on), sl_Reader_go_on⟩)
    (c_Reader_go_on : PySem.W.codeIn K cd_Reader_go_on "Reader.go_on" = true)
    (k_Reader_go_on : PySem.W.keepIn K (.ref f_Reader_go_on) = true)
    (a_Reader_take_head : PySem.W.findIn K (.ref C_Reader) "take_head" = some (some (.ref f_Reader_take_head)))
    (i_Reader_take_head : PySem.W.isFn K (.ref f_Reader_take_head) = true)
    (l_Reader_take_head : K.lookup f_Reader_take_head = some ⟨oc_Reader_take_head, od_Reader_take_head, .func (PySem.W.fnOf "take_head" "Reader.take_head" (defArgs s_Reader_take_head) (defBody s_Reader_take_head) (defScope s_Reader_take_head) .none kV_Reader_take_head dc_Reader_take_head pm_Reader_take_head an_Reader_take_head cd_Reader_take_head ct_Reader_take_head), sl_Reader_take_head⟩)
    (c_Reader_take_head : PySem.W.codeIn K cd_Reader_take_head "Reader.take_head" = true)
    (k_Reader_take_head : PySem.W.keepIn K (.ref f_Reader_take_head) = true)
    (a_Reader_take : PySem.W.findIn K (.ref C_Reader) "take" = some (some (.ref f_Reader_take)))
    (i_Reader_take : PySem.W.isFn K (.ref f_Reader_take) = true)
    (l_Reader_take : K.lookup f_Reader_take = some ⟨oc_Reader_take, od_Reader_take, .func (PySem.W.fnOf "take" "Reader.take" (defArgs s_Reader_take) (defBody s_Reader_take) (defScope s_Reader_take) .none kV_Reader_take dc_Reader_take pm_Reader_take an_Reader_take cd_Reader_take ct_Reader_take), sl_Reader_take⟩)
    (c_Reader_take : PySem.W.codeIn K cd_Reader_take "Reader.take" = true)
    (k_Reader_take : PySem.W.keepIn K (.ref f_Reader_take) = true)
    (a_SpareError : PySem.W.nsIn K mainGlobals "SpareError" = some (some (.ref C_SpareError)))
    (ga_SpareError : PySem.W.findIn K (.ref C_SpareError) "__getattribute__" = some (some (.builtin "BaseException.__getattribute__")))
    (gg_SpareError : PySem.W.findIn K (.ref C_SpareError) "__getattr__" = some none)
    (ex_SpareError : PySem.W.subIn K (.ref C_SpareError) (.type "BaseException") = some true)
    (hd_SpareError : PySem.W.hasDictIn K C_SpareError = true)
    (ih_SpareError : PySem.W.findIn K (.ref C_SpareError) "__class__" = some (some (.builtin "object.__class__")))
    (in_SpareError : PySem.W.specialIn K (.builtin "object.__class__") "__get__" = some (some (.builtin "getset_descriptor.__get__")))
    (it_SpareError : PySem.W.takesIn K (.builtin "object.__class__") = some true)
    (im_SpareError : PySem.W.mroIn K C_SpareError (.type "object") = some true)
    (ty_SpareError : PySem.W.typeIn K (.ref C_SpareError) = some (.type "type"))
    (kc_SpareError : PySem.W.keepIn K (.ref C_SpareError) = true)
    (sb_SpareError : PySem.W.subIn K (.ref C_SpareError) (.ref C_SpareError) = some true)
    (a_BadText : PySem.W.nsIn K mainGlobals "BadText" = some (some (.ref C_BadText)))
    (ga_BadText : PySem.W.findIn K (.ref C_BadText) "__getattribute__" = some (some (.builtin "BaseException.__getattribute__")))
    (gg_BadText : PySem.W.findIn K (.ref C_BadText) "__getattr__" = some none)
    (ex_BadText : PySem.W.subIn K (.ref C_BadText) (.type "BaseException") = some true)
    (hd_BadText : PySem.W.hasDictIn K C_BadText = true)
    (ih_BadText : PySem.W.findIn K (.ref C_BadText) "__class__" = some (some (.builtin "object.__class__")))
    (in_BadText : PySem.W.specialIn K (.builtin "object.__class__") "__get__" = some (some (.builtin "getset_descriptor.__get__")))
    (it_BadText : PySem.W.takesIn K (.builtin "object.__class__") = some true)
    (im_BadText : PySem.W.mroIn K C_BadText (.type "object") = some true)
    (ty_BadText : PySem.W.typeIn K (.ref C_BadText) = some (.type "type"))
    (kc_BadText : PySem.W.keepIn K (.ref C_BadText) = true)
    (sb_BadText : PySem.W.subIn K (.ref C_BadText) (.ref C_SpareError) = some true)
    (xl_BadText : K.lookup C_BadText = some (excClassObj nm_BadText q_BadText C_BadText N_BadText bs_BadText bm_BadText true sn_BadText sub_BadText ab_BadText col_BadText dd_BadText k0_BadText k1_BadText k2_BadText k3_BadText k5_BadText "ValueError.__new__"))
    (rv_BadText : PySem.HandSPX.refsVE bm_BadText = true)
    (sa_BadText : PySem.W.findIn K (.ref C_BadText) "__setattr__" = some (some (.builtin "object.__setattr__")))
    (no_line_BadText : PySem.W.findIn K (.ref C_BadText) "line" = some none)
    (ai_BadText : PySem.W.findIn K (.ref C_BadText) "__init__" = some (some (.ref fI_BadText)))
    (ti_BadText : PySem.W.typeIn K (.ref fI_BadText) = some (.type "function"))
    (li_BadText : K.lookup fI_BadText = some ⟨oc_BadText, od_BadText, .func (PySem.W.ksFn "__init__" "BadText.__init__" (defArgs s_BadText_init) (defBody s_BadText_init) (defScope s_BadText_init) .none kV_BadText doc_BadText pm_BadText an_BadText (.ref cda_BadText) ct_BadText cc_BadText), osl_BadText⟩)
    (ci_BadText : PySem.W.codeIn K (.ref cda_BadText) "BadText.__init__" = true)
    (lc_BadText : K.lookup cda_BadText = some ⟨ccl_BadText, cdd_BadText, .fields vs_BadText, ccs_BadText⟩)
    (hv_BadText : vs_BadText[2]? = some (.str file_BadText tf_BadText))
    (hf_BadText : (mainFile == file_BadText) = true)
    (ce_BadText : K.lookup cc_BadText = some ⟨cl_BadText, cld_BadText, .cell (some (.ref C_BadText)), csl_BadText⟩)
    (su_BadText : PySem.W.ks_superIn K C_BadText C_BadText "__init__" = some (some (.builtin "ValueError.__init__")))
    (se_BadText : PySem.W.mroIn K C_BadText (.ref C_BadText) = some true)
    (op_BadText : PySem.W.nsIn K cStatics "thirdparty.any" = some none)
    (ve_BadText : PySem.W.subIn K (.ref C_BadText) (.type "ValueError") = some true)
    (hP : PrOk l.prog) :
    ∃ fd : FuncData, (∀ (s : Shared) (v : Value), BindsTo s fd ⟨[v], []⟩ [("_law_script", v)]) ∧ ∀ base : Heap, K.In base → base.Ns mainGlobals mg → FnG l.prog w K mg base CX0 14 fa fd ["_law_script"] (spLaw K) := by
  have e3 : fa = f_law := by
    have z := hfa.symm.trans (PySem.W.mg_of X G a_law)
    injection z with z
    injection z
  have T : Nonempty { T : Txt K mg // T.f_law = f_law ∧ T.fd_law = PySem.W.fnOf "law" "law" (defArgs s_law) (defBody s_law) (defScope s_law) .none kV_law dc_law pm_law an_law cd_law ct_law ∧ DcOk w T } := ⟨⟨{
    f_is_word := f_is_word, fd_is_word := _, F_is_word := fun_mk (st := s_is_word) l_is_word c_is_word k_is_word, g_is_word := PySem.W.mg_of X G a_is_word,
    b_is_word := (fun_mk (st := s_is_word) l_is_word c_is_word k_is_word).binds (ps := ["value"]) fun _ _ _ _ _ _ us hl => match us, hl with | [_], _ => rfl,
    f_is_name := f_is_name, fd_is_name := _, F_is_name := fun_mk (st := s_is_name) l_is_name c_is_name k_is_name, g_is_name := PySem.W.mg_of X G a_is_name,
    b_is_name := (fun_mk (st := s_is_name) l_is_name c_is_name k_is_name).binds (ps := ["value"]) fun _ _ _ _ _ _ us hl => match us, hl with | [_], _ => rfl,
    f_are_different := f_are_different, fd_are_different := _, F_are_different := fun_mk (st := s_are_different) l_are_different c_are_different k_are_different, g_are_different := PySem.W.mg_of X G a_are_different,
    b_are_different := (fun_mk (st := s_are_different) l_are_different c_are_different k_are_different).binds (ps := ["values"]) fun _ _ _ _ _ _ us hl => match us, hl with | [_], _ => rfl,
    f_are_names := f_are_names, fd_are_names := _, F_are_names := fun_mk (st := s_are_names) l_are_names c_are_names k_are_names, g_are_names := PySem.W.mg_of X G a_are_names,
    b_are_names := (fun_mk (st := s_are_names) l_are_names c_are_names k_are_names).binds (ps := ["value", "least", "most"]) fun _ _ _ _ _ _ us hl => match us, hl with | [_, _, _], _ => rfl,
    f_are_pairs := f_are_pairs, fd_are_pairs := _, F_are_pairs := fun_mk (st := s_are_pairs) l_are_pairs c_are_pairs k_are_pairs, g_are_pairs := PySem.W.mg_of X G a_are_pairs,
    b_are_pairs := (fun_mk (st := s_are_pairs) l_are_pairs c_are_pairs k_are_pairs).binds (ps := ["value"]) fun _ _ _ _ _ _ us hl => match us, hl with | [_], _ => rfl,
    f_read_module := f_read_module, fd_read_module := _, F_read_module := fun_mk (st := s_read_module) l_read_module c_read_module k_read_module, g_read_module := PySem.W.mg_of X G a_read_module,
    b_read_module := (fun_mk (st := s_read_module) l_read_module c_read_module k_read_module).binds (ps := ["text"]) fun _ _ _ _ _ _ us hl => match us, hl with | [_], _ => rfl,
    f_law_begun := f_law_begun, fd_law_begun := _, F_law_begun := fun_mk (st := s_law_begun) l_law_begun c_law_begun k_law_begun, g_law_begun := PySem.W.mg_of X G a_law_begun,
    b_law_begun := (fun_mk (st := s_law_begun) l_law_begun c_law_begun k_law_begun).binds (ps := ["_law_script"]) fun _ _ _ _ _ _ us hl => match us, hl with | [_], _ => rfl,
    f_law_mixed := f_law_mixed, fd_law_mixed := _, F_law_mixed := fun_mk (st := s_law_mixed) l_law_mixed c_law_mixed k_law_mixed, g_law_mixed := PySem.W.mg_of X G a_law_mixed,
    b_law_mixed := (fun_mk (st := s_law_mixed) l_law_mixed c_law_mixed k_law_mixed).binds (ps := ["_law_state"]) fun _ _ _ _ _ _ us hl => match us, hl with | [_], _ => rfl,
    f_law_take := f_law_take, fd_law_take := _, F_law_take := fun_mk (st := s_law_take) l_law_take c_law_take k_law_take, g_law_take := PySem.W.mg_of X G a_law_take,
    b_law_take := (fun_mk (st := s_law_take) l_law_take c_law_take k_law_take).binds (ps := ["_law_state", "_law_size"]) fun _ _ _ _ _ _ us hl => match us, hl with | [_, _], _ => rfl,
    f_law_pick := f_law_pick, fd_law_pick := _, F_law_pick := fun_mk (st := s_law_pick) l_law_pick c_law_pick k_law_pick, g_law_pick := PySem.W.mg_of X G a_law_pick,
    b_law_pick := (fun_mk (st := s_law_pick) l_law_pick c_law_pick k_law_pick).binds (ps := ["_law_state", "_law_some"]) fun _ _ _ _ _ _ us hl => match us, hl with | [_, _], _ => rfl,
    f_law_reserved := f_law_reserved, fd_law_reserved := _, F_law_reserved := fun_mk (st := s_law_reserved) l_law_reserved c_law_reserved k_law_reserved, g_law_reserved := PySem.W.mg_of X G a_law_reserved,
    b_law_reserved := (fun_mk (st := s_law_reserved) l_law_reserved c_law_reserved k_law_reserved).binds (ps := []) fun _ _ _ _ _ _ us hl => match us, hl with | [], _ => rfl,
    f_law_told := f_law_told, fd_law_told := _, F_law_told := fun_mk (st := s_law_told) l_law_told c_law_told k_law_told, g_law_told := PySem.W.mg_of X G a_law_told,
    b_law_told := (fun_mk (st := s_law_told) l_law_told c_law_told k_law_told).binds (ps := ["_law_text"]) fun _ _ _ _ _ _ us hl => match us, hl with | [_], _ => rfl,
    f_law_near := f_law_near, fd_law_near := _, F_law_near := fun_mk (st := s_law_near) l_law_near c_law_near k_law_near, g_law_near := PySem.W.mg_of X G a_law_near,
    b_law_near := (fun_mk (st := s_law_near) l_law_near c_law_near k_law_near).binds (ps := ["_law_state"]) fun _ _ _ _ _ _ us hl => match us, hl with | [_], _ => rfl,
    f_law_item_line := f_law_item_line, fd_law_item_line := _, F_law_item_line := fun_mk (st := s_law_item_line) l_law_item_line c_law_item_line k_law_item_line, g_law_item_line := PySem.W.mg_of X G a_law_item_line,
    b_law_item_line := (fun_mk (st := s_law_item_line) l_law_item_line c_law_item_line k_law_item_line).binds (ps := ["_law_state"]) fun _ _ _ _ _ _ us hl => match us, hl with | [_], _ => rfl,
    f_law_row_line := f_law_row_line, fd_law_row_line := _, F_law_row_line := fun_mk (st := s_law_row_line) l_law_row_line c_law_row_line k_law_row_line, g_law_row_line := PySem.W.mg_of X G a_law_row_line,
    b_law_row_line := (fun_mk (st := s_law_row_line) l_law_row_line c_law_row_line k_law_row_line).binds (ps := ["_law_state"]) fun _ _ _ _ _ _ us hl => match us, hl with | [_], _ => rfl,
    f_law_block_line := f_law_block_line, fd_law_block_line := _, F_law_block_line := fun_mk (st := s_law_block_line) l_law_block_line c_law_block_line k_law_block_line, g_law_block_line := PySem.W.mg_of X G a_law_block_line,
    b_law_block_line := (fun_mk (st := s_law_block_line) l_law_block_line c_law_block_line k_law_block_line).binds (ps := ["_law_state"]) fun _ _ _ _ _ _ us hl => match us, hl with | [_], _ => rfl,
    f_law := f_law, fd_law := _, F_law := fun_mk (st := s_law) l_law c_law k_law, g_law := PySem.W.mg_of X G a_law,
    b_law := (fun_mk (st := s_law) l_law c_law k_law).binds (ps := ["_law_script"]) fun _ _ _ _ _ _ us hl => match us, hl with | [_], _ => rfl,
    c_LETTERS := ⟨_, PySem.W.mg_of X G n_LETTERS⟩,
    c_SIGNS := ⟨_, PySem.W.mg_of X G n_SIGNS⟩,
    c_MOST_SIGNS := ⟨_, PySem.W.mg_of X G n_MOST_SIGNS⟩,
    a_RESERVED := a_RESERVED, c_RESERVED := PySem.W.mg_of X G n_RESERVED, q_RESERVED := fun H => .inr ⟨_, us_RESERVED.toArray, _, l_RESERVED, rfl, rfl, Nat.le_of_lt (small1000 (by simpa using s_RESERVED)), by simpa using v_RESERVED⟩,
    c_MOST_PARTS := ⟨_, PySem.W.mg_of X G n_MOST_PARTS⟩,
    c_MOST_GIVEN := ⟨_, PySem.W.mg_of X G n_MOST_GIVEN⟩,
    c_MOST_PAIRS := ⟨_, PySem.W.mg_of X G n_MOST_PAIRS⟩,
    c_MOST_LEVELS := ⟨_, PySem.W.mg_of X G n_MOST_LEVELS⟩,
    c_STEP := ⟨_, PySem.W.mg_of X G n_STEP⟩,
    a_BINDERS := a_BINDERS, c_BINDERS := PySem.W.mg_of X G n_BINDERS, q_BINDERS := fun H => .inr ⟨_, us_BINDERS.toArray, _, l_BINDERS, rfl, rfl, Nat.le_of_lt (small1000 (by simpa using s_BINDERS)), by simpa using v_BINDERS⟩,
    a_OPENERS := a_OPENERS, c_OPENERS := PySem.W.mg_of X G n_OPENERS, q_OPENERS := fun H => .inr ⟨_, us_OPENERS.toArray, _, l_OPENERS, rfl, rfl, Nat.le_of_lt (small1000 (by simpa using s_OPENERS)), by simpa using v_OPENERS⟩,
    a_SECONDS := a_SECONDS, c_SECONDS := PySem.W.mg_of X G n_SECONDS, es_SECONDS := es_SECONDS, nn_SECONDS := nn_SECONDS, l_SECONDS := l_SECONDS, lo_SECONDS := lo_SECONDS, k_SECONDS_0 := ⟨_, k_SECONDS_0⟩, k_SECONDS_1 := ⟨_, k_SECONDS_1⟩, k_SECONDS_2 := ⟨_, k_SECONDS_2⟩, m_SECONDS_0 := m_SECONDS_0, m_SECONDS_1 := m_SECONDS_1,
    a_SECOND_LINES := a_SECOND_LINES, c_SECOND_LINES := PySem.W.mg_of X G n_SECOND_LINES, q_SECOND_LINES := fun H => .inr ⟨_, us_SECOND_LINES.toArray, _, l_SECOND_LINES, rfl, rfl, Nat.le_of_lt (small1000 (by simpa using s_SECOND_LINES)), by simpa using v_SECOND_LINES⟩,
    z_super := PySem.W.mg_none_of X G z_super,
    z_isinstance := PySem.W.mg_none_of X G z_isinstance,
    z_str := PySem.W.mg_none_of X G z_str,
    z_all := PySem.W.mg_none_of X G z_all,
    z_len := PySem.W.mg_none_of X G z_len,
    z_tuple := PySem.W.mg_none_of X G z_tuple,
    z_divmod := PySem.W.mg_none_of X G z_divmod,
    z_enumerate := PySem.W.mg_none_of X G z_enumerate,
    z_list := PySem.W.mg_none_of X G z_list,
    z_int := PySem.W.mg_none_of X G z_int,
    z_max := PySem.W.mg_none_of X G z_max,
    z_range := PySem.W.mg_none_of X G z_range,
    z_min := PySem.W.mg_none_of X G z_min,
    z_repr := PySem.W.mg_none_of X G z_repr,
    C_Scanner := C_Scanner, gC_Scanner := PySem.W.mg_of X G a_Scanner, cl_Scanner := ⟨pg_Scanner, hd_Scanner, po_Scanner, sa_Scanner⟩, sf_Scanner := sf_Scanner, ih_Scanner := ih_Scanner, in_Scanner := in_Scanner, it_Scanner := it_Scanner, im_Scanner := im_Scanner, ne_Scanner := ne_Scanner, ty_Scanner := ty_Scanner,
    at_Scanner_line := at_Scanner_line,
    at_Scanner_spot := at_Scanner_spot,
    f_Scanner_init := f_Scanner_init, fd_Scanner_init := _, F_Scanner_init := fun_mk (st := s_Scanner_init) l_Scanner_init c_Scanner_init k_Scanner_init,
    m_Scanner_init := ⟨a_Scanner_init, i_Scanner_init, k_Scanner_init⟩,
    mk_Scanner := ⟨mk_Scanner, a_Scanner_init, i_Scanner_init, kc_Scanner⟩,
    b_Scanner_init := (fun_mk (st := s_Scanner_init) l_Scanner_init c_Scanner_init k_Scanner_init).binds (ps := ["self", "line"]) fun _ _ _ _ _ _ us hl => match us, hl with | [_, _], _ => rfl,
    f_Scanner_rest := f_Scanner_rest, fd_Scanner_rest := _, F_Scanner_rest := fun_mk (st := s_Scanner_rest) l_Scanner_rest c_Scanner_rest k_Scanner_rest,
    m_Scanner_rest := ⟨a_Scanner_rest, i_Scanner_rest, k_Scanner_rest⟩,
    b_Scanner_rest := (fun_mk (st := s_Scanner_rest) l_Scanner_rest c_Scanner_rest k_Scanner_rest).binds (ps := ["self"]) fun _ _ _ _ _ _ us hl => match us, hl with | [_], _ => rfl,
    f_Scanner_take := f_Scanner_take, fd_Scanner_take := _, F_Scanner_take := fun_mk (st := s_Scanner_take) l_Scanner_take c_Scanner_take k_Scanner_take,
    m_Scanner_take := ⟨a_Scanner_take, i_Scanner_take, k_Scanner_take⟩,
    b_Scanner_take := (fun_mk (st := s_Scanner_take) l_Scanner_take c_Scanner_take k_Scanner_take).binds (ps := ["self", "signs"]) fun _ _ _ _ _ _ us hl => match us, hl with | [_, _], _ => rfl,
    f_Scanner_word := f_Scanner_word, fd_Scanner_word := _, F_Scanner_word := fun_mk (st := s_Scanner_word) l_Scanner_word c_Scanner_word k_Scanner_word,
    m_Scanner_word := ⟨a_Scanner_word, i_Scanner_word, k_Scanner_word⟩,
    b_Scanner_word := (fun_mk (st := s_Scanner_word) l_Scanner_word c_Scanner_word k_Scanner_word).binds (ps := ["self"]) fun _ _ _ _ _ _ us hl => match us, hl with | [_], _ => rfl,
    f_Scanner_next_name := f_Scanner_next_name, fd_Scanner_next_name := _, F_Scanner_next_name := fun_mk (st := s_Scanner_next_name) l_Scanner_next_name c_Scanner_next_name k_Scanner_next_name,
    m_Scanner_next_name := ⟨a_Scanner_next_name, i_Scanner_next_name, k_Scanner_next_name⟩,
    b_Scanner_next_name := (fun_mk (st := s_Scanner_next_name) l_Scanner_next_name c_Scanner_next_name k_Scanner_next_name).binds (ps := ["self"]) fun _ _ _ _ _ _ us hl => match us, hl with | [_], _ => rfl,
    f_Scanner_quoted := f_Scanner_quoted, fd_Scanner_quoted := _, F_Scanner_quoted := fun_mk (st := s_Scanner_quoted) l_Scanner_quoted c_Scanner_quoted k_Scanner_quoted,
    m_Scanner_quoted := ⟨a_Scanner_quoted, i_Scanner_quoted, k_Scanner_quoted⟩,
    b_Scanner_quoted := (fun_mk (st := s_Scanner_quoted) l_Scanner_quoted c_Scanner_quoted k_Scanner_quoted).binds (ps := ["self", "ahead", "behind"]) fun _ _ _ _ _ _ us hl => match us, hl with | [_, _, _], _ => rfl,
    f_Scanner_part := f_Scanner_part, fd_Scanner_part := _, F_Scanner_part := fun_mk (st := s_Scanner_part) l_Scanner_part c_Scanner_part k_Scanner_part,
    m_Scanner_part := ⟨a_Scanner_part, i_Scanner_part, k_Scanner_part⟩,
    b_Scanner_part := (fun_mk (st := s_Scanner_part) l_Scanner_part c_Scanner_part k_Scanner_part).binds (ps := ["self"]) fun _ _ _ _ _ _ us hl => match us, hl with | [_], _ => rfl,
    f_Scanner_expr := f_Scanner_expr, fd_Scanner_expr := _, F_Scanner_expr := fun_mk (st := s_Scanner_expr) l_Scanner_expr c_Scanner_expr k_Scanner_expr,
    m_Scanner_expr := ⟨a_Scanner_expr, i_Scanner_expr, k_Scanner_expr⟩,
    b_Scanner_expr := (fun_mk (st := s_Scanner_expr) l_Scanner_expr c_Scanner_expr k_Scanner_expr).binds (ps := ["self"]) fun _ _ _ _ _ _ us hl => match us, hl with | [_], _ => rfl,
    f_Scanner_built := f_Scanner_built, fd_Scanner_built := _, F_Scanner_built := fun_mk (st := s_Scanner_built) l_Scanner_built c_Scanner_built k_Scanner_built,
    m_Scanner_built := ⟨a_Scanner_built, i_Scanner_built, k_Scanner_built⟩,
    b_Scanner_built := (fun_mk (st := s_Scanner_built) l_Scanner_built c_Scanner_built k_Scanner_built).binds (ps := ["self"]) fun _ _ _ _ _ _ us hl => match us, hl with | [_], _ => rfl,
    f_Scanner_target := f_Scanner_target, fd_Scanner_target := _, F_Scanner_target := fun_mk (st := s_Scanner_target) l_Scanner_target c_Scanner_target k_Scanner_target,
    m_Scanner_target := ⟨a_Scanner_target, i_Scanner_target, k_Scanner_target⟩,
    b_Scanner_target := (fun_mk (st := s_Scanner_target) l_Scanner_target c_Scanner_target k_Scanner_target).binds (ps := ["self"]) fun _ _ _ _ _ _ us hl => match us, hl with | [_], _ => rfl,
    f_Scanner_listed := f_Scanner_listed, fd_Scanner_listed := _, F_Scanner_listed := fun_mk (st := s_Scanner_listed) l_Scanner_listed c_Scanner_listed k_Scanner_listed,
    m_Scanner_listed := ⟨a_Scanner_listed, i_Scanner_listed, k_Scanner_listed⟩,
    b_Scanner_listed := (fun_mk (st := s_Scanner_listed) l_Scanner_listed c_Scanner_listed k_Scanner_listed).binds (ps := ["self", "by_name", "end"]) fun _ _ _ _ _ _ us hl => match us, hl with | [_, _, _], _ => rfl,
    f_Scanner_call := f_Scanner_call, fd_Scanner_call := _, F_Scanner_call := fun_mk (st := s_Scanner_call) l_Scanner_call c_Scanner_call k_Scanner_call,
    m_Scanner_call := ⟨a_Scanner_call, i_Scanner_call, k_Scanner_call⟩,
    b_Scanner_call := (fun_mk (st := s_Scanner_call) l_Scanner_call c_Scanner_call k_Scanner_call).binds (ps := ["self", "into"]) fun _ _ _ _ _ _ us hl => match us, hl with | [_, _], _ => rfl,
    f_Scanner_let := f_Scanner_let, fd_Scanner_let := _, F_Scanner_let := fun_mk (st := s_Scanner_let) l_Scanner_let c_Scanner_let k_Scanner_let,
    m_Scanner_let := ⟨a_Scanner_let, i_Scanner_let, k_Scanner_let⟩,
    b_Scanner_let := (fun_mk (st := s_Scanner_let) l_Scanner_let c_Scanner_let k_Scanner_let).binds (ps := ["self"]) fun _ _ _ _ _ _ us hl => match us, hl with | [_], _ => rfl,
    f_Scanner_choice := f_Scanner_choice, fd_Scanner_choice := _, F_Scanner_choice := fun_mk (st := s_Scanner_choice) l_Scanner_choice c_Scanner_choice k_Scanner_choice,
    m_Scanner_choice := ⟨a_Scanner_choice, i_Scanner_choice, k_Scanner_choice⟩,
    b_Scanner_choice := (fun_mk (st := s_Scanner_choice) l_Scanner_choice c_Scanner_choice k_Scanner_choice).binds (ps := ["self"]) fun _ _ _ _ _ _ us hl => match us, hl with | [_], _ => rfl,
    f_Scanner_statement := f_Scanner_statement, fd_Scanner_statement := _, F_Scanner_statement := fun_mk (st := s_Scanner_statement) l_Scanner_statement c_Scanner_statement k_Scanner_statement,
    m_Scanner_statement := ⟨a_Scanner_statement, i_Scanner_statement, k_Scanner_statement⟩,
    b_Scanner_statement := (fun_mk (st := s_Scanner_statement) l_Scanner_statement c_Scanner_statement k_Scanner_statement).binds (ps := ["self"]) fun _ _ _ _ _ _ us hl => match us, hl with | [_], _ => rfl,
    f_Scanner_used := f_Scanner_used, fd_Scanner_used := _, F_Scanner_used := fun_mk (st := s_Scanner_used) l_Scanner_used c_Scanner_used k_Scanner_used,
    m_Scanner_used := ⟨a_Scanner_used, i_Scanner_used, k_Scanner_used⟩,
    b_Scanner_used := (fun_mk (st := s_Scanner_used) l_Scanner_used c_Scanner_used k_Scanner_used).binds (ps := ["self"]) fun _ _ _ _ _ _ us hl => match us, hl with | [_], _ => rfl,
    f_Scanner_offered := f_Scanner_offered, fd_Scanner_offered := _, F_Scanner_offered := fun_mk (st := s_Scanner_offered) l_Scanner_offered c_Scanner_offered k_Scanner_offered,
    m_Scanner_offered := ⟨a_Scanner_offered, i_Scanner_offered, k_Scanner_offered⟩,
    b_Scanner_offered := (fun_mk (st := s_Scanner_offered) l_Scanner_offered c_Scanner_offered k_Scanner_offered).binds (ps := ["self"]) fun _ _ _ _ _ _ us hl => match us, hl with | [_], _ => rfl,
    f_Scanner_keyed := f_Scanner_keyed, fd_Scanner_keyed := _, F_Scanner_keyed := fun_mk (st := s_Scanner_keyed) l_Scanner_keyed c_Scanner_keyed k_Scanner_keyed,
    m_Scanner_keyed := ⟨a_Scanner_keyed, i_Scanner_keyed, k_Scanner_keyed⟩,
    b_Scanner_keyed := (fun_mk (st := s_Scanner_keyed) l_Scanner_keyed c_Scanner_keyed k_Scanner_keyed).binds (ps := ["self"]) fun _ _ _ _ _ _ us hl => match us, hl with | [_], _ => rfl,
    f_Scanner_defined := f_Scanner_defined, fd_Scanner_defined := _, F_Scanner_defined := fun_mk (st := s_Scanner_defined) l_Scanner_defined c_Scanner_defined k_Scanner_defined,
    m_Scanner_defined := ⟨a_Scanner_defined, i_Scanner_defined, k_Scanner_defined⟩,
    b_Scanner_defined := (fun_mk (st := s_Scanner_defined) l_Scanner_defined c_Scanner_defined k_Scanner_defined).binds (ps := ["self"]) fun _ _ _ _ _ _ us hl => match us, hl with | [_], _ => rfl,
    f_Scanner_item := f_Scanner_item, fd_Scanner_item := _, F_Scanner_item := fun_mk (st := s_Scanner_item) l_Scanner_item c_Scanner_item k_Scanner_item,
    m_Scanner_item := ⟨a_Scanner_item, i_Scanner_item, k_Scanner_item⟩,
    b_Scanner_item := (fun_mk (st := s_Scanner_item) l_Scanner_item c_Scanner_item k_Scanner_item).binds (ps := ["self"]) fun _ _ _ _ _ _ us hl => match us, hl with | [_], _ => rfl,
    C_Frame := C_Frame, gC_Frame := PySem.W.mg_of X G a_Frame, cl_Frame := ⟨pg_Frame, hd_Frame, po_Frame, sa_Frame⟩, sf_Frame := sf_Frame, ih_Frame := ih_Frame, in_Frame := in_Frame, it_Frame := it_Frame, im_Frame := im_Frame, ne_Frame := ne_Frame, ty_Frame := ty_Frame,
    at_Frame_head := at_Frame_head,
    at_Frame_blocks := at_Frame_blocks,
    f_Frame_init := f_Frame_init, fd_Frame_init := _, F_Frame_init := fun_mk (st := s_Frame_init) l_Frame_init c_Frame_init k_Frame_init,
    m_Frame_init := ⟨a_Frame_init, i_Frame_init, k_Frame_init⟩,
    mk_Frame := ⟨mk_Frame, a_Frame_init, i_Frame_init, kc_Frame⟩,
    b_Frame_init := (fun_mk (st := s_Frame_init) l_Frame_init c_Frame_init k_Frame_init).binds (ps := ["self", "head"]) fun _ _ _ _ _ _ us hl => match us, hl with | [_, _], _ => rfl,
    f_Frame_may_go_on := f_Frame_may_go_on, fd_Frame_may_go_on := _, F_Frame_may_go_on := fun_mk (st := s_Frame_may_go_on) l_Frame_may_go_on c_Frame_may_go_on k_Frame_may_go_on,
    m_Frame_may_go_on := ⟨a_Frame_may_go_on, i_Frame_may_go_on, k_Frame_may_go_on⟩,
    b_Frame_may_go_on := (fun_mk (st := s_Frame_may_go_on) l_Frame_may_go_on c_Frame_may_go_on k_Frame_may_go_on).binds (ps := ["self", "line"]) fun _ _ _ _ _ _ us hl => match us, hl with | [_, _], _ => rfl,
    f_Frame_is_complete := f_Frame_is_complete, fd_Frame_is_complete := _, F_Frame_is_complete := fun_mk (st := s_Frame_is_complete) l_Frame_is_complete c_Frame_is_complete k_Frame_is_complete,
    m_Frame_is_complete := ⟨a_Frame_is_complete, i_Frame_is_complete, k_Frame_is_complete⟩,
    b_Frame_is_complete := (fun_mk (st := s_Frame_is_complete) l_Frame_is_complete c_Frame_is_complete k_Frame_is_complete).binds (ps := ["self"]) fun _ _ _ _ _ _ us hl => match us, hl with | [_], _ => rfl,
    f_Frame_whole := f_Frame_whole, fd_Frame_whole := _, F_Frame_whole := fun_mk (st := s_Frame_whole) l_Frame_whole c_Frame_whole k_Frame_whole,
    m_Frame_whole := ⟨a_Frame_whole, i_Frame_whole, k_Frame_whole⟩,
    b_Frame_whole := (fun_mk (st := s_Frame_whole) l_Frame_whole c_Frame_whole k_Frame_whole).binds (ps := ["self"]) fun _ _ _ _ _ _ us hl => match us, hl with | [_], _ => rfl,
    C_Reader := C_Reader, gC_Reader := PySem.W.mg_of X G a_Reader, cl_Reader := ⟨pg_Reader, hd_Reader, po_Reader, sa_Reader⟩, sf_Reader := sf_Reader, ih_Reader := ih_Reader, in_Reader := in_Reader, it_Reader := it_Reader, im_Reader := im_Reader, ne_Reader := ne_Reader, ty_Reader := ty_Reader,
    at_Reader_kept := at_Reader_kept,
    at_Reader_bound := at_Reader_bound,
    at_Reader_frames := at_Reader_frames,
    f_Reader_init := f_Reader_init, fd_Reader_init := _, F_Reader_init := fun_mk (st := s_Reader_init) l_Reader_init c_Reader_init k_Reader_init,
    m_Reader_init := ⟨a_Reader_init, i_Reader_init, k_Reader_init⟩,
    mk_Reader := ⟨mk_Reader, a_Reader_init, i_Reader_init, kc_Reader⟩,
    b_Reader_init := (fun_mk (st := s_Reader_init) l_Reader_init c_Reader_init k_Reader_init).binds (ps := ["self"]) fun _ _ _ _ _ _ us hl => match us, hl with | [_], _ => rfl,
    f_Reader_keep := f_Reader_keep, fd_Reader_keep := _, F_Reader_keep := fun_mk (st := s_Reader_keep) l_Reader_keep c_Reader_keep k_Reader_keep,
    m_Reader_keep := ⟨a_Reader_keep, i_Reader_keep, k_Reader_keep⟩,
    b_Reader_keep := (fun_mk (st := s_Reader_keep) l_Reader_keep c_Reader_keep k_Reader_keep).binds (ps := ["self", "row"]) fun _ _ _ _ _ _ us hl => match us, hl with | [_, _], _ => rfl,
    f_Reader_shut := f_Reader_shut, fd_Reader_shut := _, F_Reader_shut := fun_mk (st := s_Reader_shut) l_Reader_shut c_Reader_shut k_Reader_shut,
    m_Reader_shut := ⟨a_Reader_shut, i_Reader_shut, k_Reader_shut⟩,
    b_Reader_shut := (fun_mk (st := s_Reader_shut) l_Reader_shut c_Reader_shut k_Reader_shut).binds (ps := ["self", "level"]) fun _ _ _ _ _ _ us hl => match us, hl with | [_, _], _ => rfl,
    f_Reader_go_on := f_Reader_go_on, fd_Reader_go_on := _, F_Reader_go_on := fun_mk (st := s_Reader_go_on) l_Reader_go_on c_Reader_go_on k_Reader_go_on,
    m_Reader_go_on := ⟨a_Reader_go_on, i_Reader_go_on, k_Reader_go_on⟩,
    b_Reader_go_on := (fun_mk (st := s_Reader_go_on) l_Reader_go_on c_Reader_go_on k_Reader_go_on).binds (ps := ["self", "line", "level"]) fun _ _ _ _ _ _ us hl => match us, hl with | [_, _, _], _ => rfl,
    f_Reader_take_head := f_Reader_take_head, fd_Reader_take_head := _, F_Reader_take_head := fun_mk (st := s_Reader_take_head) l_Reader_take_head c_Reader_take_head k_Reader_take_head,
    m_Reader_take_head := ⟨a_Reader_take_head, i_Reader_take_head, k_Reader_take_head⟩,
    b_Reader_take_head := (fun_mk (st := s_Reader_take_head) l_Reader_take_head c_Reader_take_head k_Reader_take_head).binds (ps := ["self", "head", "level"]) fun _ _ _ _ _ _ us hl => match us, hl with | [_, _, _], _ => rfl,
    f_Reader_take := f_Reader_take, fd_Reader_take := _, F_Reader_take := fun_mk (st := s_Reader_take) l_Reader_take c_Reader_take k_Reader_take,
    m_Reader_take := ⟨a_Reader_take, i_Reader_take, k_Reader_take⟩,
    b_Reader_take := (fun_mk (st := s_Reader_take) l_Reader_take c_Reader_take k_Reader_take).binds (ps := ["self", "line"]) fun _ _ _ _ _ _ us hl => match us, hl with | [_, _], _ => rfl,
    C_SpareError := C_SpareError, gC_SpareError := PySem.W.mg_of X G a_SpareError, x_SpareError := ⟨ga_SpareError, gg_SpareError, ex_SpareError, hd_SpareError, ih_SpareError, in_SpareError, it_SpareError, im_SpareError⟩, xf_SpareError := ⟨ga_SpareError, gg_SpareError, ex_SpareError, hd_SpareError⟩, kC_SpareError := kc_SpareError, ty_SpareError := ty_SpareError,
    m_SpareError := PySem.W.exm_ref ex_SpareError hd_SpareError ty_SpareError sb_SpareError,
    C_BadText := C_BadText, gC_BadText := PySem.W.mg_of X G a_BadText, x_BadText := ⟨ga_BadText, gg_BadText, ex_BadText, hd_BadText, ih_BadText, in_BadText, it_BadText, im_BadText⟩, xf_BadText := ⟨ga_BadText, gg_BadText, ex_BadText, hd_BadText⟩, kC_BadText := kc_BadText, ty_BadText := ty_BadText,
    m_BadText := PySem.W.exm_ref ex_SpareError hd_SpareError ty_SpareError sb_BadText,
    fI_BadText := fI_BadText,
    no_BadText_line := no_line_BadText,
    e_BadText := fun P hP => { g := PySem.W.mg_of X G a_BadText, O := ⟨⟨nm_BadText, q_BadText, N_BadText, bs_BadText, bm_BadText, sn_BadText, sub_BadText, ab_BadText, col_BadText, dd_BadText, k0_BadText, k1_BadText, k2_BadText, k3_BadText, k5_BadText, xl_BadText, rv_BadText⟩, sa_BadText, ex_BadText, ty_BadText, kc_BadText⟩, S := ⟨⟨_, _, _, _, _, _, _, _, _, _, _, _, _, _, _, _, _, file_BadText, _, li_BadText, ci_BadText, lc_BadText, hv_BadText, by rw [hP.1]; exact hf_BadText, ce_BadText⟩, hP.2, su_BadText, se_BadText, op_BadText, ve_BadText⟩, T := tx_BadText, no := no_line_BadText, iC := ai_BadText, tI := ti_BadText, b := fun _ _ _ _ _ _ _ _ _ _ => .of_eq rfl, su := PySem.W.mg_none_of X G z_super } }, rfl, rfl, kl_SECONDS⟩⟩
  obtain ⟨T, e1, e2, hD⟩ := T
  refine ⟨PySem.W.fnOf "law" "law" (defArgs s_law) (defBody s_law) (defScope s_law) .none kV_law dc_law pm_law an_law cd_law ct_law, fun s v => .of_eq rfl, fun base _ _ => ?_⟩
  rw [e3, ← e1, ← e2]
  exact ok_law T hP hD
theorem walk {l : PySem.W.OpenLaw} {q : Program} {loose : List Str} {XP : (Str → Option Value) → Heap → Prop} {YP : World → Heap → Prop} {d : DefRec} {K : Params → PySem.W.Frag} (hn : l.most = some 63) (hdf : d.params.defaults = [])
    (hY : ∀ (w : World) (h : Heap), YP w h → (K w.params).In h)
    (F : ∀ (w : World) (mg : Str → Option Value) (fa : Addr) (h : Heap), (K w.params).In h → h.Ns mainGlobals mg → mg d.name = some (.ref fa) →
      ∃ fd : FuncData, (∀ (s : Shared) (u : Value), BindsTo s fd ⟨[u], []⟩ [("_law_script", u)]) ∧ ∀ base : Heap, (K w.params).In base → base.Ns mainGlobals mg → FnG l.prog w (K w.params) mg base CX0 14 fa fd ["_law_script"] (spLaw (K w.params))) :
    PySem.W.WalkO q loose XP YP l.row.toRowW d [] (fun f vs => PySem.call f vs) :=
  walkG (n := 63) (k := 14) (x := "_law_script") (CX := fun _ => CX0) (sp := fun w => spLaw (K w.params)) hn (by decide) hdf ⟨rfl, by decide, by decide⟩ hY F
    (fun _ _ a ns hl _ hS => ⟨a, ns, rfl, hS, hl, fun _ => rfl⟩) fun _ _ _ _ _ z => z
end Sn
open PySem PySem.W PyProof.Rows
set_option maxRecDepth 100000 in
set_option maxHeartbeats 0 in
theorem PySem.Challenge.cw_sparenames_k13_lines_of_reserved_words_holds : PySem.Challenge.rw_sparenames_k13_lines_of_reserved_words.Holds := by
  w_on; o_law; k_head; (case hw => w_witness2)
  k_fill
  refine Sn.walk (l := PySem.Challenge.rw_sparenames_k13_lines_of_reserved_words) rfl rfl (fun w h Y => PySem.W.kIn_of Y) ?F
  case F =>
    intro w mg fa h KX G hmg
    refine' Sn.all_mk KX G hmg ?a_is_word ?l_is_word ?c_is_word ?k_is_word ?a_is_name ?l_is_name ?c_is_name ?k_is_name ?a_are_different ?l_are_different ?c_are_different ?k_are_different ?a_are_names ?l_are_names ?c_are_names ?k_are_names ?a_are_pairs ?l_are_pairs ?c_are_pairs ?k_are_pairs ?a_read_module ?l_read_module ?c_read_module ?k_read_module ?a_law_begun ?l_law_begun ?c_law_begun ?k_law_begun ?a_law_mixed ?l_law_mixed ?c_law_mixed ?k_law_mixed ?a_law_take ?l_law_take ?c_law_take ?k_law_take ?a_law_pick ?l_law_pick ?c_law_pick ?k_law_pick ?a_law_reserved ?l_law_reserved ?c_law_reserved ?k_law_reserved ?a_law_told ?l_law_told ?c_law_told ?k_law_told ?a_law_near ?l_law_near ?c_law_near ?k_law_near ?a_law_item_line ?l_law_item_line ?c_law_item_line ?k_law_item_line ?a_law_row_line ?l_law_row_line ?c_law_row_line ?k_law_row_line ?a_law_block_line ?l_law_block_line ?c_law_block_line ?k_law_block_line ?a_law ?l_law ?c_law ?k_law ?n_LETTERS ?n_SIGNS ?n_MOST_SIGNS ?n_RESERVED ?l_RESERVED ?s_RESERVED ?v_RESERVED ?n_MOST_PARTS ?n_MOST_GIVEN ?n_MOST_PAIRS ?n_MOST_LEVELS ?n_STEP ?n_BINDERS ?l_BINDERS ?s_BINDERS ?v_BINDERS ?n_OPENERS ?l_OPENERS ?s_OPENERS ?v_OPENERS ?n_SECONDS ?l_SECONDS ?lo_SECONDS ?kl_SECONDS ?k_SECONDS_0 ?k_SECONDS_1 ?k_SECONDS_2 ?m_SECONDS_0 ?m_SECONDS_1 ?n_SECOND_LINES ?l_SECOND_LINES ?s_SECOND_LINES ?v_SECOND_LINES ?z_super ?z_isinstance ?z_str ?z_all ?z_len ?z_tuple ?z_divmod ?z_enumerate ?z_list ?z_int ?z_max ?z_range ?z_min ?z_repr ?a_Scanner ?pg_Scanner ?hd_Scanner ?po_Scanner ?sa_Scanner ?mk_Scanner ?kc_Scanner ?sf_Scanner ?ih_Scanner ?im_Scanner ?ne_Scanner ?ty_Scanner ?in_Scanner ?it_Scanner ?at_Scanner_line ?at_Scanner_spot ?a_Scanner_init ?i_Scanner_init ?l_Scanner_init ?c_Scanner_init ?k_Scanner_init ?a_Scanner_rest ?i_Scanner_rest ?l_Scanner_rest ?c_Scanner_rest ?k_Scanner_rest ?a_Scanner_take ?i_Scanner_take ?l_Scanner_take ?c_Scanner_take ?k_Scanner_take ?a_Scanner_word ?i_Scanner_word ?l_Scanner_word ?c_Scanner_word ?k_Scanner_word ?a_Scanner_next_name ?i_Scanner_next_name ?l_Scanner_next_name ?c_Scanner_next_name ?k_Scanner_next_name ?a_Scanner_quoted ?i_Scanner_quoted ?l_Scanner_quoted ?c_Scanner_quoted ?k_Scanner_quoted ?a_Scanner_part ?i_Scanner_part ?l_Scanner_part ?c_Scanner_part ?k_Scanner_part ?a_Scanner_expr ?i_Scanner_expr ?l_Scanner_expr ?c_Scanner_expr ?k_Scanner_expr ?a_Scanner_built ?i_Scanner_built ?l_Scanner_built ?c_Scanner_built ?k_Scanner_built ?a_Scanner_target ?i_Scanner_target ?l_Scanner_target ?c_Scanner_target ?k_Scanner_target ?a_Scanner_listed ?i_Scanner_listed ?l_Scanner_listed ?c_Scanner_listed ?k_Scanner_listed ?a_Scanner_call ?i_Scanner_call ?l_Scanner_call ?c_Scanner_call ?k_Scanner_call ?a_Scanner_let ?i_Scanner_let ?l_Scanner_let ?c_Scanner_let ?k_Scanner_let ?a_Scanner_choice ?i_Scanner_choice ?l_Scanner_choice ?c_Scanner_choice ?k_Scanner_choice ?a_Scanner_statement ?i_Scanner_statement ?l_Scanner_statement ?c_Scanner_statement ?k_Scanner_statement ?a_Scanner_used ?i_Scanner_used ?l_Scanner_used ?c_Scanner_used ?k_Scanner_used ?a_Scanner_offered ?i_Scanner_offered ?l_Scanner_offered ?c_Scanner_offered ?k_Scanner_offered ?a_Scanner_keyed ?i_Scanner_keyed ?l_Scanner_keyed ?c_Scanner_keyed ?k_Scanner_keyed ?a_Scanner_defined ?i_Scanner_defined ?l_Scanner_defined ?c_Scanner_defined ?k_Scanner_defined ?a_Scanner_item ?i_Scanner_item ?l_Scanner_item ?c_Scanner_item ?k_Scanner_item ?a_Frame ?pg_Frame ?hd_Frame ?po_Frame ?sa_Frame ?mk_Frame ?kc_Frame ?sf_Frame ?ih_Frame ?im_Frame ?ne_Frame ?ty_Frame ?in_Frame ?it_Frame ?at_Frame_head ?at_Frame_blocks ?a_Frame_init ?i_Frame_init ?l_Frame_init ?c_Frame_init ?k_Frame_init ?a_Frame_may_go_on ?i_Frame_may_go_on ?l_Frame_may_go_on ?c_Frame_may_go_on ?k_Frame_may_go_on ?a_Frame_is_complete ?i_Frame_is_complete ?l_Frame_is_complete ?c_Frame_is_complete ?k_Frame_is_complete ?a_Frame_whole ?i_Frame_whole ?l_Frame_whole ?c_Frame_whole ?k_Frame_whole ?a_Reader ?pg_Reader ?hd_Reader ?po_Reader ?sa_Reader ?mk_Reader ?kc_Reader ?sf_Reader ?ih_Reader ?im_Reader ?ne_Reader ?ty_Reader ?in_Reader ?it_Reader ?at_Reader_kept ?at_Reader_bound ?at_Reader_frames ?a_Reader_init ?i_Reader_init ?l_Reader_init ?c_Reader_init ?k_Reader_init ?a_Reader_keep ?i_Reader_keep ?l_Reader_keep ?c_Reader_keep ?k_Reader_keep ?a_Reader_shut ?i_Reader_shut ?l_Reader_shut ?c_Reader_shut ?k_Reader_shut ?a_Reader_go_on ?i_Reader_go_on ?l_Reader_go_on ?c_Reader_go_on ?k_Reader_go_on ?a_Reader_take_head ?i_Reader_take_head ?l_Reader_take_head ?c_Reader_take_head ?k_Reader_take_head ?a_Reader_take ?i_Reader_take ?l_Reader_take ?c_Reader_take ?k_Reader_take ?a_SpareError ?ga_SpareError ?gg_SpareError ?ex_SpareError ?hd_SpareError ?ih_SpareError ?in_SpareError ?it_SpareError ?im_SpareError ?ty_SpareError ?kc_SpareError ?sb_SpareError ?a_BadText ?ga_BadText ?gg_BadText ?ex_BadText ?hd_BadText ?ih_BadText ?in_BadText ?it_BadText ?im_BadText ?ty_BadText ?kc_BadText ?sb_BadText ?xl_BadText ?rv_BadText ?sa_BadText ?no_line_BadText ?ai_BadText ?ti_BadText ?li_BadText ?ci_BadText ?lc_BadText ?hv_BadText ?hf_BadText ?ce_BadText ?su_BadText ?se_BadText ?op_BadText ?ve_BadText ?hP
    (case a_is_word => k_is)
    (case l_is_word => k_is)
    (case c_is_word => k_is)
    (case k_is_word => k_is)
    (case a_is_name => k_is)
    (case l_is_name => k_is)
    (case c_is_name => k_is)
    (case k_is_name => k_is)
    (case a_are_different => k_is)
    (case l_are_different => k_is)
    (case c_are_different => k_is)
    (case k_are_different => k_is)
    (case a_are_names => k_is)
    (case l_are_names => k_is)
    (case c_are_names => k_is)
    (case k_are_names => k_is)
    (case a_are_pairs => k_is)
    (case l_are_pairs => k_is)
    (case c_are_pairs => k_is)
    (case k_are_pairs => k_is)
    (case a_read_module => k_is)
    (case l_read_module => k_is)
    (case c_read_module => k_is)
    (case k_read_module => k_is)
    (case a_law_begun => k_is)
    (case l_law_begun => k_is)
    (case c_law_begun => k_is)
    (case k_law_begun => k_is)
    (case a_law_mixed => k_is)
    (case l_law_mixed => k_is)
    (case c_law_mixed => k_is)
    (case k_law_mixed => k_is)
    (case a_law_take => k_is)
    (case l_law_take => k_is)
    (case c_law_take => k_is)
    (case k_law_take => k_is)
    (case a_law_pick => k_is)
    (case l_law_pick => k_is)
    (case c_law_pick => k_is)
    (case k_law_pick => k_is)
    (case a_law_reserved => k_is)
    (case l_law_reserved => k_is)
    (case c_law_reserved => k_is)
    (case k_law_reserved => k_is)
    (case a_law_told => k_is)
    (case l_law_told => k_is)
    (case c_law_told => k_is)
    (case k_law_told => k_is)
    (case a_law_near => k_is)
    (case l_law_near => k_is)
    (case c_law_near => k_is)
    (case k_law_near => k_is)
    (case a_law_item_line => k_is)
    (case l_law_item_line => k_is)
    (case c_law_item_line => k_is)
    (case k_law_item_line => k_is)
    (case a_law_row_line => k_is)
    (case l_law_row_line => k_is)
    (case c_law_row_line => k_is)
    (case k_law_row_line => k_is)
    (case a_law_block_line => k_is)
    (case l_law_block_line => k_is)
    (case c_law_block_line => k_is)
    (case k_law_block_line => k_is)
    (case a_law => k_is)
    (case l_law => k_is)
    (case c_law => k_is)
    (case k_law => k_is)
    (case n_LETTERS => k_is)
    (case n_SIGNS => k_is)
    (case n_MOST_SIGNS => k_is)
    (case n_RESERVED => k_is)
    (case l_RESERVED => k_is)
    (case s_RESERVED => decide)
    (case v_RESERVED => exact (.cons ⟨_, rfl⟩ (.cons ⟨_, rfl⟩ (.cons ⟨_, rfl⟩ (.cons ⟨_, rfl⟩ (.cons ⟨_, rfl⟩ (.cons ⟨_, rfl⟩ (.cons ⟨_, rfl⟩ (.cons ⟨_, rfl⟩ (.cons ⟨_, rfl⟩ (.cons ⟨_, rfl⟩ (.cons ⟨_, rfl⟩ (.cons ⟨_, rfl⟩ (.cons ⟨_, rfl⟩ (.cons ⟨_, rfl⟩ (.cons ⟨_, rfl⟩ (.cons ⟨_, rfl⟩ (.cons ⟨_, rfl⟩ (.cons ⟨_, rfl⟩ (.cons ⟨_, rfl⟩ .nil))))))))))))))))))))
    (case n_MOST_PARTS => k_is)
    (case n_MOST_GIVEN => k_is)
    (case n_MOST_PAIRS => k_is)
    (case n_MOST_LEVELS => k_is)
    (case n_STEP => k_is)
    (case n_BINDERS => k_is)
    (case l_BINDERS => k_is)
    (case s_BINDERS => decide)
    (case v_BINDERS => exact (.cons ⟨_, rfl⟩ (.cons ⟨_, rfl⟩ (.cons ⟨_, rfl⟩ (.cons ⟨_, rfl⟩ .nil)))))
    (case n_OPENERS => k_is)
    (case l_OPENERS => k_is)
    (case s_OPENERS => decide)
    (case v_OPENERS => exact (.cons ⟨_, rfl⟩ (.cons ⟨_, rfl⟩ (.cons ⟨_, rfl⟩ (.cons ⟨_, rfl⟩ (.cons ⟨_, rfl⟩ .nil))))))
    (case n_SECONDS => k_is)
    (case l_SECONDS => k_is)
    (case lo_SECONDS => decide +kernel)
    (case kl_SECONDS => exact ⟨⟨_, _, rfl, rfl⟩, ⟨_, _, rfl, rfl⟩, ⟨_, _, rfl, rfl⟩, trivial⟩)
    (case k_SECONDS_0 => k_is)
    (case k_SECONDS_1 => k_is)
    (case k_SECONDS_2 => k_is)
    (case m_SECONDS_0 => k_is)
    (case m_SECONDS_1 => k_is)
    (case n_SECOND_LINES => k_is)
    (case l_SECOND_LINES => k_is)
    (case s_SECOND_LINES => decide)
    (case v_SECOND_LINES => exact (.cons ⟨_, rfl⟩ (.cons ⟨_, rfl⟩ .nil)))
    (case z_super => k_is)
    (case z_isinstance => k_is)
    (case z_str => k_is)
    (case z_all => k_is)
    (case z_len => k_is)
    (case z_tuple => k_is)
    (case z_divmod => k_is)
    (case z_enumerate => k_is)
    (case z_list => k_is)
    (case z_int => k_is)
    (case z_max => k_is)
    (case z_range => k_is)
    (case z_min => k_is)
    (case z_repr => k_is)
    (case a_Scanner => k_is)
    (case pg_Scanner => k_is)
    (case hd_Scanner => k_is)
    (case po_Scanner => k_is)
    (case sa_Scanner => k_is)
    (case mk_Scanner => k_is)
    (case kc_Scanner => k_is)
    (case sf_Scanner => k_is)
    (case ih_Scanner => k_is)
    (case im_Scanner => k_is)
    (case ne_Scanner => k_is)
    (case ty_Scanner => k_is)
    (case in_Scanner => k_is)
    (case it_Scanner => k_is)
    (case at_Scanner_line => k_is)
    (case at_Scanner_spot => k_is)
    (case a_Scanner_init => k_is)
    (case i_Scanner_init => k_is)
    (case l_Scanner_init => k_is)
    (case c_Scanner_init => k_is)
    (case k_Scanner_init => k_is)
    (case a_Scanner_rest => k_is)
    (case i_Scanner_rest => k_is)
    (case l_Scanner_rest => k_is)
    (case c_Scanner_rest => k_is)
    (case k_Scanner_rest => k_is)
    (case a_Scanner_take => k_is)
    (case i_Scanner_take => k_is)
    (case l_Scanner_take => k_is)
    (case c_Scanner_take => k_is)
    (case k_Scanner_take => k_is)
    (case a_Scanner_word => k_is)
    (case i_Scanner_word => k_is)
    (case l_Scanner_word => k_is)
    (case c_Scanner_word => k_is)
    (case k_Scanner_word => k_is)
    (case a_Scanner_next_name => k_is)
    (case i_Scanner_next_name => k_is)
    (case l_Scanner_next_name => k_is)
    (case c_Scanner_next_name => k_is)
    (case k_Scanner_next_name => k_is)
    (case a_Scanner_quoted => k_is)
    (case i_Scanner_quoted => k_is)
    (case l_Scanner_quoted => k_is)
    (case c_Scanner_quoted => k_is)
    (case k_Scanner_quoted => k_is)
    (case a_Scanner_part => k_is)
    (case i_Scanner_part => k_is)
    (case l_Scanner_part => k_is)
    (case c_Scanner_part => k_is)
    (case k_Scanner_part => k_is)
    (case a_Scanner_expr => k_is)
    (case i_Scanner_expr => k_is)
    (case l_Scanner_expr => k_is)
    (case c_Scanner_expr => k_is)
    (case k_Scanner_expr => k_is)
    (case a_Scanner_built => k_is)
    (case i_Scanner_built => k_is)
    (case l_Scanner_built => k_is)
    (case c_Scanner_built => k_is)
    (case k_Scanner_built => k_is)
    (case a_Scanner_target => k_is)
    (case i_Scanner_target => k_is)
    (case l_Scanner_target => k_is)
    (case c_Scanner_target => k_is)
    (case k_Scanner_target => k_is)
    (case a_Scanner_listed => k_is)
    (case i_Scanner_listed => k_is)
    (case l_Scanner_listed => k_is)
    (case c_Scanner_listed => k_is)
    (case k_Scanner_listed => k_is)
    (case a_Scanner_call => k_is)
    (case i_Scanner_call => k_is)
    (case l_Scanner_call => k_is)
    (case c_Scanner_call => k_is)
    (case k_Scanner_call => k_is)
    (case a_Scanner_let => k_is)
    (case i_Scanner_let => k_is)
    (case l_Scanner_let => k_is)
    (case c_Scanner_let => k_is)
    (case k_Scanner_let => k_is)
    (case a_Scanner_choice => k_is)
    (case i_Scanner_choice => k_is)
    (case l_Scanner_choice => k_is)
    (case c_Scanner_choice => k_is)
    (case k_Scanner_choice => k_is)
    (case a_Scanner_statement => k_is)
    (case i_Scanner_statement => k_is)
    (case l_Scanner_statement => k_is)
    (case c_Scanner_statement => k_is)
    (case k_Scanner_statement => k_is)
    (case a_Scanner_used => k_is)
    (case i_Scanner_used => k_is)
    (case l_Scanner_used => k_is)
    (case c_Scanner_used => k_is)
    (case k_Scanner_used => k_is)
    (case a_Scanner_offered => k_is)
    (case i_Scanner_offered => k_is)
    (case l_Scanner_offered => k_is)
    (case c_Scanner_offered => k_is)
    (case k_Scanner_offered => k_is)
    (case a_Scanner_keyed => k_is)
    (case i_Scanner_keyed => k_is)
    (case l_Scanner_keyed => k_is)
    (case c_Scanner_keyed => k_is)
    (case k_Scanner_keyed => k_is)
    (case a_Scanner_defined => k_is)
    (case i_Scanner_defined => k_is)
    (case l_Scanner_defined => k_is)
    (case c_Scanner_defined => k_is)
    (case k_Scanner_defined => k_is)
    (case a_Scanner_item => k_is)
    (case i_Scanner_item => k_is)
    (case l_Scanner_item => k_is)
    (case c_Scanner_item => k_is)
    (case k_Scanner_item => k_is)
    (case a_Frame => k_is)
    (case pg_Frame => k_is)
    (case hd_Frame => k_is)
    (case po_Frame => k_is)
    (case sa_Frame => k_is)
    (case mk_Frame => k_is)
    (case kc_Frame => k_is)
    (case sf_Frame => k_is)
    (case ih_Frame => k_is)
    (case im_Frame => k_is)
    (case ne_Frame => k_is)
    (case ty_Frame => k_is)
    (case in_Frame => k_is)
    (case it_Frame => k_is)
    (case at_Frame_head => k_is)
    (case at_Frame_blocks => k_is)
    (case a_Frame_init => k_is)
    (case i_Frame_init => k_is)
    (case l_Frame_init => k_is)
    (case c_Frame_init => k_is)
    (case k_Frame_init => k_is)
    (case a_Frame_may_go_on => k_is)
    (case i_Frame_may_go_on => k_is)
    (case l_Frame_may_go_on => k_is)
    (case c_Frame_may_go_on => k_is)
    (case k_Frame_may_go_on => k_is)
    (case a_Frame_is_complete => k_is)
    (case i_Frame_is_complete => k_is)
    (case l_Frame_is_complete => k_is)
    (case c_Frame_is_complete => k_is)
    (case k_Frame_is_complete => k_is)
    (case a_Frame_whole => k_is)
    (case i_Frame_whole => k_is)
    (case l_Frame_whole => k_is)
    (case c_Frame_whole => k_is)
    (case k_Frame_whole => k_is)
    (case a_Reader => k_is)
    (case pg_Reader => k_is)
    (case hd_Reader => k_is)
    (case po_Reader => k_is)
    (case sa_Reader => k_is)
    (case mk_Reader => k_is)
    (case kc_Reader => k_is)
    (case sf_Reader => k_is)
    (case ih_Reader => k_is)
    (case im_Reader => k_is)
    (case ne_Reader => k_is)
    (case ty_Reader => k_is)
    (case in_Reader => k_is)
    (case it_Reader => k_is)
    (case at_Reader_kept => k_is)
    (case at_Reader_bound => k_is)
    (case at_Reader_frames => k_is)
    (case a_Reader_init => k_is)
    (case i_Reader_init => k_is)
    (case l_Reader_init => k_is)
    (case c_Reader_init => k_is)
    (case k_Reader_init => k_is)
    (case a_Reader_keep => k_is)
    (case i_Reader_keep => k_is)
    (case l_Reader_keep => k_is)
    (case c_Reader_keep => k_is)
    (case k_Reader_keep => k_is)
    (case a_Reader_shut => k_is)
    (case i_Reader_shut => k_is)
    (case l_Reader_shut => k_is)
    (case c_Reader_shut => k_is)
    (case k_Reader_shut => k_is)
    (case a_Reader_go_on => k_is)
    (case i_Reader_go_on => k_is)
    (case l_Reader_go_on => k_is)
    (case c_Reader_go_on => k_is)
    (case k_Reader_go_on => k_is)
    (case a_Reader_take_head => k_is)
    (case i_Reader_take_head => k_is)
    (case l_Reader_take_head => k_is)
    (case c_Reader_take_head => k_is)
    (case k_Reader_take_head => k_is)
    (case a_Reader_take => k_is)
    (case i_Reader_take => k_is)
    (case l_Reader_take => k_is)
    (case c_Reader_take => k_is)
    (case k_Reader_take => k_is)
    (case a_SpareError => k_is)
    (case ga_SpareError => k_is)
    (case gg_SpareError => k_is)
    (case ex_SpareError => k_is)
    (case hd_SpareError => k_is)
    (case ih_SpareError => k_is)
    (case in_SpareError => k_is)
    (case it_SpareError => k_is)
    (case im_SpareError => k_is)
    (case ty_SpareError => k_is)
    (case kc_SpareError => k_is)
    (case sb_SpareError => first | rfl | k_is)
    (case a_BadText => k_is)
    (case ga_BadText => k_is)
    (case gg_BadText => k_is)
    (case ex_BadText => k_is)
    (case hd_BadText => k_is)
    (case ih_BadText => k_is)
    (case in_BadText => k_is)
    (case it_BadText => k_is)
    (case im_BadText => k_is)
    (case ty_BadText => k_is)
    (case kc_BadText => k_is)
    (case sb_BadText => first | rfl | k_is)
    (case xl_BadText => k_is)
    (case rv_BadText => first | rfl | decide +kernel)
    (case sa_BadText => k_is)
    (case no_line_BadText => k_is)
    (case ai_BadText => k_is)
    (case ti_BadText => k_is)
    (case li_BadText => k_is)
    (case ci_BadText => k_is)
    (case lc_BadText => k_is)
    (case hv_BadText => rfl)
    (case hf_BadText => first | rfl | decide +kernel)
    (case ce_BadText => k_is)
    (case su_BadText => ks_is)
    (case se_BadText => k_is)
    (case op_BadText => k_is)
    (case ve_BadText => k_is)
    (case hP => exact ⟨rfl, by decide +kernel⟩)

