import PyProof.Rows.All
import Wide.All
import OpenK.AllK
import Wide.FinOn
import HandS.ForMost
import HandS.IsInst
import HandS.Flow
import HandS.Walk
import HandS.Codes
import PyProof.TupleOfStr
import PyProof.ReprRoads
import HandS.Defaults
import HandS.OwnEq
import HandS.DictComp
import HandS.Star
import HandS.Conv
import HandS.ClsMeth
import KE.GoesMore
import HandS.ExcInit
import HandS.ExcValue
import HandS.ExcField
import HandS.ExcOwn
import HandS.WordsExc
import KE.KExcSuper
import KE.KExcIs
import HandS.ExcIs
import HandS.Head0
import HandS.Head1
import HandS.Head2
import HandS.HeadEnd
import HandS.HeadHook1
import HandS.HeadHook2
import HandS.HeadHook3
import KE.KSuperObj
import HandS.Deep
import HandS.TupAny
import PyProof.NeKinds
import PyProof.StrOps2
import HandS.Style
import HandS.FStr
import PyProof.RulesMatch
import PyProof.CollectIter
import PyProof.WalksMore
import HandS.More
import HandS.Set
import HandS.SetFor
import HandS.TupSets
import HandS.SetTxt0
import HandS.TryOnly
import HandS.DeepEq
import HandS.List
import HandS.IterVal
import PyProof.Rows.SortShellAny
import HandS.MakeKwOnly
import KE.KRevSl
import PyProof.EqKinds
import PySem.Challenge.RW_sparenames_k05_trees_recognized
set_option Elab.async false
set_option linter.all false
set_option maxRecDepth 100000
set_option maxHeartbeats 4000000
namespace Sn
open PySem PySem.Spec PyProof.Rows L2
section
variable {P : Program} {w : World} {K : PySem.W.Frag} {mg : Str → Option Value} {base : Heap} {CX : CXT}
structure FnG (P : Program) (w : World) (K : PySem.W.Frag) (mg : Str → Option Value)
    (base : Heap) (CX : CXT) (k : Nat) (f : Addr) (fd : FuncData) (ps : List Str) (sp : Sp) : Prop where
  leng : ∀ xs H Q E, sp xs H Q E → xs.length = ps.length
  runs : ∀ (A : Around) (fr : List Env) (s : Shared) (H : Hp) (ar : Args) (us : List Value) (xs : List V) (Q : VK) (E : XK),
    A.guards = some [] → Room k A → Env0 P w K mg base A fr s H → BindsTo s fd ar (ps.zip us) → Vals xs us → sp xs H Q E →
    codeAny (model P w) A (.call (.ref f) ar) (CR CX fr P w H s Q E) s
theorem FnG.of {k : Nat} {f : Addr} {fd : FuncData} {ps : List Str} {sp : Sp}
    (F : FnOk P w K mg base CX k f fd ps sp) : FnG P w K mg base CX k f fd ps sp :=
  ⟨F.len, fun A fr s H ar us xs Q E _ a b c d e => F.run A fr s H ar us xs Q E a b c d e⟩
theorem fnG_of {k : Nat} {f : Addr} {nm ql : Str} {pa : Arguments} {bd : List Stmt} {sc : Scope}
    {dV kV dc pm cd ct oc : Value} {an od : Option Addr} {sl : Array (Option Value)} {N ps : List Str} {sp : Sp}
    (lk : K.lookup f = some ⟨oc, od, .func (PySem.W.fnOf nm ql pa bd sc dV kV dc pm an cd ct), sl⟩)
    (hc : PySem.W.codeIn K cd ql = true) (S : FnScope N ps sc) (leng : ∀ xs H Q E, sp xs H Q E → xs.length = ps.length)
    (hb : ∀ (A : Around) (fr : List Env) (s : Shared) (H : Hp) (xs : List V) (Q : VK) (E : XK),
      (A.deeper (envOfC ql sc s.heap.objs.size f cd)).guards = some [] → Room k (A.deeper (envOfC ql sc s.heap.objs.size f cd)) →
      sp xs H Q E → ∃ t, PSs (cxOf CX P w K mg base N ql sc f cd A fr s H E) bd t ∧
        t { nx := fun _ H' => Q .non H', rt := Q } (start N xs) H) :
    FnG P w K mg base CX (k + 1) f (PySem.W.fnOf nm ql pa bd sc dV kV dc pm an cd ct) ps sp := by
  refine ⟨leng, ?_⟩
  intro A fr s H ar us xs Q E hg hr e0 hbi rv hsp
  have hlen := leng _ _ _ _ hsp
  have kin : K.In s.heap := e0.mod.kin.keeps fun b o q => (e0.bs b o q).1
  have nol : s.heap.NoLimit := e0.mod.nolimit.keeps fun b o q => (e0.bs b o q).1
  have knd : ∀ y ∈ ps.zip us, sc.names.lookup y.1 = some .local ∨ (sc.names.lookup y.1 = some .cell ∧
      ((cellsFrom (s.heap.objs.size + 1) sc.names []).lookup y.1).isSome = true) := by
    rintro ⟨n, v⟩ hy
    exact (S.par n (List.of_mem_zip hy).1).elim .inl fun q => .inr ⟨q, PySem.W.cellsFrom_some _ _ _ (.inl q)⟩
  refine codeAny_call_function hr.depth (kin _ _ lk) rfl S.co S.gen rfl (PySem.W.codeRec_of kin hc) ?_
  refine hbi _ _ _ _ ?_
  refine wpAny_newFunctionEnv_cells S.kind knd ?_
  rintro env rfl s1 x
  refine ⟨nol.keeps x.toInCall.keep, codeAny_func ?_⟩
  obtain ⟨t, ht, hq⟩ := hb A fr s H xs Q E hg (hr.deeper _) hsp
  have J : Inv (cxOf CX P w K mg base N ql sc f cd A fr s H E) [] (start N xs) H s1 :=
    inv_start S hr.hd e0 hlen rv x
  refine wpAny_mono (ht.run [] s1 (start N xs) H _ J hq) ?_ fun e s' z => z
  intro fl s' hs
  match fl, hs with
  | .ret u, ⟨v, σ', H', J', rr, qq⟩ => exact ⟨v, H', J'.os, J'.bare, J'.base, J'.hok, rr, qq⟩
  | .next, ⟨σ', H', J', qq⟩ => exact ⟨V.non, H', J'.os, J'.bare, J'.base, J'.hok, rfl, qq⟩
  | .brk, ⟨_, _, _, qq⟩ => exact False.elim qq
  | .cont, ⟨_, _, _, qq⟩ => exact False.elim qq
theorem okG {x ql : Str} {st : Stmt} {f : Addr} {fd : FuncData} {N ps : List Str} {k : Nat} {sp : Sp}
    (F : Fun K x ql st f fd) (S : FnScope N ps (defScope st)) (leng : ∀ xs H Q E, sp xs H Q E → xs.length = ps.length)
    (hb : ∀ (cd : Value) (A : Around) (fr : List Env) (s : Shared) (H : Hp) (xs : List V) (Q : VK) (E : XK),
      (A.deeper (envOfC ql (defScope st) s.heap.objs.size f cd)).guards = some [] →
      Room k (A.deeper (envOfC ql (defScope st) s.heap.objs.size f cd)) → sp xs H Q E →
      ∃ t, PSs (cxOf CX0 P w K mg base N ql (defScope st) f cd A fr s H E).nox (defBody st) t ∧
        t { nx := fun _ H' => Q .non H', rt := Q } (start N xs) H) :
    FnG P w K mg base CX0 (k + 1) f fd ps sp := by
  obtain ⟨oc, od, kV, dc, pm, an, cd, ct, sl, rfl, lk, hcd⟩ := F.ex
  refine fnG_of lk hcd S leng fun A fr s H xs Q E hg hr h => ?_
  obtain ⟨t, a, b⟩ := hb cd A fr s H xs Q E hg hr h
  exact ⟨t, a.nox, b⟩
end
section
variable {X : Cx} {CX : CXT} {k : Nat} {f : Addr} {fd : FuncData} {ps : List Str} {sp : Sp} {dvs : List V} {ds : List Value}
  {E : XK} {x : Str} {p pos : Pos} {e : Expr} {es : List Expr} {t : TA}
/-- f(k = v, ..), keywords alone -/
theorem pe_callK0 {kws : List Keyword} {tk : TA} {ks : List Str} {g : List Value → List Value → List Value} {gV : List V → List V → List V}
    (F : FnOk X.prog X.w X.K X.mg X.base CX k f fd ps sp) (hr : Room k X.A) (hg : Gl X x) (hm : X.mg x = some (.ref f))
    (hk : PySem.W.keepIn X.K (.ref f) = true) (hb : KBinds X.K fd ps ks g gV) (hx : Passes CX X E) (hkw : PK X kws tk)
    (hall : (backToKw pos (keywordEach kws X.env)).all (·.1.isSome) = true := by rfl)
    (hks : (backToKw pos (keywordEach kws X.env)).filterMap (·.1) = ks := by rfl) (hdb : (x == ("__debug__" : Str)) = false := by decide)
    (hpl : (backToKw pos (keywordEach kws X.env)).any (·.1.isNone) = false := by rfl) :
    PE X (.Call (.Name x p) [] kws pos) (tCallK sp gV E tNil tk) := by
  refine ⟨fun pins s σ H Q I h => wpAny_Call_Name_kw (ld_glob I hg hm ?_ hdb)⟩
  refine PySem.W.callWith_KW0 (h₀ := X.base) I.ok.mod.kin hk hall ?_ hpl
  refine thn (hkw.run pos pins s σ H _ I h) ?_
  rintro ws s2 ⟨zs, H2, I2, rz, q2⟩
  refine ⟨I2.kIn, ?_⟩
  rw [hks]
  exact run_fnk F hr hb hx I2 .nil rz q2
/-- repr of data that stands at an address -/
theorem call_repr (hgu : X.A.guards = some []) (hu : X.A.units + 70 < cLine) : CallR X (.builtin "repr")
    (fun xs H Q => ∃ (a : Addr) (d : PyData), xs = [.ref a] ∧ Dp X.K H (.ref a) d ∧ d.showable = true ∧ d.hasDict = false ∧
      d.depth ≤ 64 ∧ d.shown.length ≤ sizeLine ∧ Q (.str d.shown) H) := by
  intro pins s σ H xs us Q I r h
  obtain ⟨a, d, rfl, hD, hs, hn, hd, hz, q⟩ := h
  obtain ⟨u, rfl, rx⟩ := vals1 r
  obtain ⟨as, rr⟩ := Dp.reads I d _ u hD rx
  cases rx
  refine repr_of_reads' rr hs (fun z => by rw [hn] at z; cases z) hgu (by omega) (fun _ _ z => z) ?_ hz
  intro h' u tk kp
  exact ⟨.str _, H, I.kept kp, ⟨_, rfl⟩, q⟩
/-- tuple(text) -/
theorem call_tupS : CallR X (.type "tuple") (fun xs H Q => ∃ z : Str, xs = [.str z] ∧ X.A.handled = none ∧ z.cps.size ≤ sizeLine ∧
      ∀ l, H l = none → Q (.ref l) (upd H l (.tup (z.cps.toList.map fun c => V.str ⟨#[c]⟩)))) := by
  intro pins s σ H xs us Q I r h
  obtain ⟨z, rfl, hh, hz, q⟩ := h
  obtain ⟨u, rfl, t, rfl⟩ := vals1 r
  refine call_tuple_str hh z t ?_ hz
  intro h' tk acc kp hacc
  have I1 : Inv X pins σ H { s with heap := h', toks := tk } := I.kept kp
  have rv : Vals (z.cps.toList.map fun c => V.str ⟨#[c]⟩) acc.toList := by
    have key : ∀ (cs : List Nat) (us : List Value), us.length = cs.length →
        (∀ (j : Nat) (v : Value), us[j]? = some v → ∃ c u, cs[j]? = some c ∧ v = Value.str ⟨#[c]⟩ u) → Vals (cs.map fun c => V.str ⟨#[c]⟩) us := by
      intro cs
      induction cs with
      | nil =>
        intro us hl _
        match us, hl with
        | [], _ => exact .nil
      | cons c cs ih =>
        intro us hl hv
        match us, hl with
        | u :: us, hl =>
          obtain ⟨c', w', e1, e2⟩ := hv 0 u rfl
          cases e1
          exact .cons ⟨w', e2⟩ (ih us (by simpa using hl) fun j v hj => hv (j + 1) v hj)
    refine key _ _ (by simpa using hacc.1) fun j v hj => ?_
    obtain ⟨c, u, e1, e2⟩ := hacc.2 j v (by simpa using hj)
    exact ⟨c, u, by simpa using e1, e2⟩
  refine ⟨.ref h'.objs.size, _, I1.laid (t' := tk) (fun b o e => Heap.get?_push_of_some _ e) (Nat.le_refl _) ?_, rfl, q _ (I1.hok.fresh (Nat.le_refl _))⟩
  refine (show ObjOk X.prog X.w _ _ _ (.tup _) from ⟨by simpa using hz, acc.toList, rv, ?_⟩)
  rw [show acc.toList.toArray = acc from by simp]
  exact ⟨_, Heap.get?_push_size _ rfl, rfl, _, rfl⟩
end
theorem hu70 {A : Around} {k : Nat} (hr : Room k A) : A.units + 70 < cLine := by have := hr.un; omega
theorem law_callG {P : Program} {w : World} {K : PySem.W.Frag} {mg mb : Str → Option Value} {CX : CXT} {k : Nat}
    {fa a : Addr} {fd : FuncData} {x : Str} {sp : Sp} {s₁ : Shared} {us : List Value} {ns : List Int}
    (kin : K.In s₁.heap) (hns : s₁.heap.Ns mainGlobals mg) (hbn : s₁.heap.Ns builtinsNs mb)
    (hbb : ∀ x : Str, x ≠ "__name__" → mb x = bootBuiltins x) (nol : s₁.heap.NoLimit) (hge : s₁.gens = #[])
    (ha : s₁.heap.get? a = some { cls := .type "list", data := .seq us.toArray }) (hi : IntsAre us ns)
    (hl : ns.length ≤ sizeLine) (hr : Room k callerA)
    (F : ∀ base : Heap, K.In base → base.Ns mainGlobals mg → FnG P w K mg base CX k fa fd [x] sp)
    (hbi : ∀ (s : Shared) (u : Value), BindsTo s fd ⟨[u], []⟩ [(x, u)])
    (hsp : ∀ H : Hp, Only H → SqL K H a (ns.map V.int) → sp [.ref a] H (fun v _ => v = .bl true) fun _ _ _ => False)
    (hCX : ∀ H e s', CX [] H s₁ (fun _ _ _ => False) e s' → False) :
    codeAny (model P w) callerA (.call (.ref fa) ⟨[.ref a], []⟩)
      (fun r s' => r = .ok (.ret (.bool true)) ∧ OldK s₁.heap s'.heap ∧ s'.os = s₁.os ∧ AllBare s'.gens) s₁ := by
  have rv := vals_ints hi
  have main : ∀ H : Hp, Only H → SqL K H a (ns.map V.int) → HOk P w H s₁.heap → (∀ b, H b ≠ none → b = a) →
      (H a ≠ none → K.lookup a = none) → codeAny (model P w) callerA (.call (.ref fa) ⟨[.ref a], []⟩)
      (fun r s' => r = .ok (.ret (.bool true)) ∧ OldK s₁.heap s'.heap ∧ s'.os = s₁.os ∧ AllBare s'.gens) s₁ := by
    intro H hO hS hok hA hK
    have only : ∀ {b : Addr} {u : HO}, H b = some u → b = a := fun {b u} q => hA b (by rw [q]; simp)
    have nodict : ∀ {b : Addr} {o : Obj} {es : Array DictEntry} {ep : Nat}, s₁.heap.get? b = some o → o.data = .dict es ep → H b = none := by
      intro b o es ep q d
      cases hq : H b with
      | none => rfl
      | some u =>
        cases only hq
        rw [ha] at q; cases q; cases d
    have ns2 : ∀ {b : Addr} {m : Str → Option Value}, s₁.heap.Ns b m → (hidT s₁.heap H).Ns b m := by
      rintro b m ⟨o, es, ep, q, d, r⟩
      exact ⟨o, es, ep, hidT_get q (nodict q d), d, r⟩
    have kb : K.In (hidT s₁.heap H) := by
      intro b o q
      refine hidT_get (kin b o q) ?_
      cases hq : H b with
      | none => rfl
      | some u =>
        cases only hq
        rw [hK (by rw [hq]; simp)] at q; cases q
    obtain ⟨mc, h1, h2⟩ := nol
    have e0 : Env0 P w K mg (hidT s₁.heap H) callerA [] s₁ H :=
      { frames := rfl, mod := ⟨kb, ns2 hns, ⟨mb, ns2 hbn, hbb⟩, ⟨mc, ns2 h1, h2⟩⟩, bs := fun b o q => of_hidT q
        bsz := Nat.le_of_eq (hidT_size _ _), funs := trivial, frf := (fun b z => nomatch z), hok := hok, bare := .of_eq hge }
    refine codeAny_mono ((F _ kb (ns2 hns)).runs callerA [] s₁ H ⟨[.ref a], []⟩ [.ref a] [.ref a] _ _ rfl hr e0 (hbi s₁ (.ref a)) (.cons rfl .nil) (hsp H hO hS)) ?_
    intro r s' h
    match r, h with
    | .error e, h => exact (hCX H e s' h).elim
    | .ok .next, h => exact False.elim h
    | .ok .brk, h => exact False.elim h
    | .ok .cont, h => exact False.elim h
    | .ok (.ret u), ⟨v, H', os, bare, un, hok', rr, q⟩ =>
      have q1 : v = .bl true := q
      subst q1
      have q2 : u = Value.bool true := rr
      subst q2
      refine ⟨rfl, OldK.of_keep ?_, os, bare⟩
      intro b o e
      cases hq : H b with
      | none => exact un.keep b o e hq (fun z => nomatch z) (fun z => nomatch z)
      | some u =>
        rcases hO b with z | ⟨ob, xs, z⟩
        · rw [hq] at z; cases z
        · have e1 := (hok b _ z).1
          have e2 := (hok' b _ (un.frzs b ob _ z)).1
          rw [e] at e1; cases e1
          exact e2
  have lenV := hi.length
  cases hk : K.lookup a with
  | some o =>
    have e := kin a o hk
    rw [ha] at e
    cases e
    refine main (fun _ => none) (fun _ => .inl rfl) (.inr ⟨_, us.toArray, _, hk, rfl, rfl, rfl, ?_, by simpa using rv⟩) (fun b u z => nomatch z) (fun b z => absurd rfl z) fun z => absurd rfl z
    rw [List.size_toArray, lenV]; exact hl
  | none =>
    have only1 : ∀ b, ¬ b = a → (if b = a then some (HO.frz { cls := .type "list", data := .seq us.toArray } (.lst (ns.map V.int))) else none) = none := fun b h => if_neg h
    refine main (fun b => if b = a then some (.frz { cls := .type "list", data := .seq us.toArray } (.lst (ns.map V.int))) else none) ?_ (.inl (.inr ⟨_, if_pos rfl⟩)) ?_ ?_ fun _ => hk
    · intro b
      by_cases hb : b = a
      · exact .inr ⟨_, _, if_pos hb⟩
      · exact .inl (if_neg hb)
    · intro b u z
      by_cases hb : b = a
      · have z2 := (if_pos hb).symm.trans z
        cases z2
        subst hb
        exact ⟨ha, by rw [List.length_map]; exact hl, us, _, rv, ha⟩
      · have z2 := (if_neg hb).symm.trans z
        cases z2
    · intro b z
      exact Decidable.byContradiction fun hb => z (if_neg hb)
end Sn
namespace Sn
open PySem PySem.Spec PyProof.Rows L2
/-- a def as it stands behind the top, whatever its defaults -/
structure FunV (K : PySem.W.Frag) (x qual : Str) (st : Stmt) (f : Addr) (fd : FuncData) : Prop where
  ex : ∃ (oc : Value) (od : Option Addr) (dV kV doc pm : Value) (an : Option Addr) (cdv ct : Value) (osl : Array (Option Value)),
    fd = PySem.W.fnOf x qual (defArgs st) (defBody st) (defScope st) dV kV doc pm an cdv ct ∧ K.lookup f = some ⟨oc, od, .func fd, osl⟩ ∧ PySem.W.codeIn K cdv qual = true
  kp : PySem.W.keepIn K (.ref f) = true
abbrev FunS (K : PySem.W.Frag) (x qual : Str) (st : Stmt) (dvs : List V) (f : Addr) (fd : FuncData) : Prop := FunD K x qual (defArgs st) (defBody st) (defScope st) dvs [] f fd
section
variable {P : Program} {w : World} {K : PySem.W.Frag} {mg : Str → Option Value} {base : Heap} {x qual : Str} {st : Stmt} {f : Addr} {fd : FuncData} {dvs : List V}
theorem FunV.ok {N ps : List Str} {k : Nat} {sp : Sp} (F : FunV K x qual st f fd) (S : FnScope N ps (defScope st)) (len : ∀ vs H Q E, sp vs H Q E → vs.length = ps.length)
    (hbody : ∀ (cdv : Value) (A : Around) (outer : List Env) (s : Shared) (H : Hp) (vs : List V) (Q : VK) (E : XK), Room k (A.deeper (envOfC qual (defScope st) s.heap.objs.size f cdv)) → sp vs H Q E →
      ∃ t, PSs (cxOf CX0 P w K mg base N qual (defScope st) f cdv A outer s H E).nox (defBody st) t ∧ t { nx := fun _ H' => Q .non H', rt := Q } (start N vs) H) : FnOk P w K mg base CX0 (k + 1) f fd ps sp := by
  obtain ⟨oc, od, dV, kV, doc, pm, an, cdv, ct, osl, rfl, lk, hcd⟩ := F.ex
  refine fn_of lk hcd S len fun A outer s H vs Q E hr hsp => ?_
  obtain ⟨t, h, q⟩ := hbody cdv A outer s H vs Q E hr hsp
  exact ⟨t, h.nox, q⟩
/-- all parameters are given -/
theorem FunS.all {ps : List Str} (F : FunS K x qual st dvs f fd) (hd : dvs ≠ []) (h : ∀ (T : Addr) (kV doc pm : Value) (an : Option Addr) (cdv ct : Value) (us its : List Value), us.length = ps.length → its.length = dvs.length →
      ∃ k, bindArgs (PySem.W.fnOf x qual (defArgs st) (defBody st) (defScope st) (.ref T) kV doc pm an cdv ct) ⟨us, []⟩ = seqItems? (.ref T) >>= k ∧ k (some its.toArray) = pure (ps.zip us)) : Binds K fd ps [] := by
  obtain ⟨ds, hv, hb⟩ := FunD.binds1 (ps := ps) F ps.length dvs.length hd (by omega) fun T kV doc pm an cdv ct us its h1 h2 => by
    obtain ⟨k, e1, e2⟩ := h T kV doc pm an cdv ct us its h1 h2
    refine ⟨k, e1, ?_⟩
    rw [← h2, List.drop_length, List.append_nil]
    exact e2
  rw [List.drop_length] at hv
  cases hv
  exact hb
end
end Sn
namespace Sn
open PySem PySem.Spec PyProof.Rows L2
section
variable {X : Cx} {CX : CXT} {k i : Nat} {f C : Addr} {fd : FuncData} {ps : List Str} {sp : Sp} {E : XK} {x m : Str} {e o : Expr} {es : List Expr} {te ta : TE} {t : TA} {p sp_ pos apos : Pos}
theorem op_notIn_seqK {K : PySem.W.Frag} (hK : X.K = K := by rfl) : OpR X (compareOp .NotIn) (rIn K true) := by
  subst hK
  exact op_notIn_seq
theorem ix_listK {K : PySem.W.Frag} (hK : X.K = K := by rfl) : IxR X (rIxL K) := by
  subst hK
  exact ix_list
end
end Sn
namespace Sn
open PySem PySem.Spec PyProof.Rows L2
abbrev Fr := PySem.W.Frag
abbrev FnV : Type := Option (Str × Str × Arguments × FuncBody × Scope × Addr × List Str × Addr)
/-- the def that stands at a place -/
def fnV (K : Fr) (a : Addr) : FnV := match K.lookup a with
  | some ⟨_, _, .func fd, _⟩ => some (fd.name, fd.qualname, fd.params, fd.body, fd.scope, fd.globals, fd.closure.map (·.1), fd.builtins)
  | _ => none
/-- where a def stands, its names, its text, the names of its cells -/
structure DfM where
  at_ : Fr → Addr
  name : Str
  qual : Str
  st : Stmt
  cl : List Str
def DfM.val (d : DfM) : FnV := some (d.name, d.qual, defArgs d.st, .stmts (defBody d.st), defScope d.st, mainGlobals, d.cl, builtinsNs)
abbrev AlM : Type := Bool × List FnV × List (Option (List (Option (Str × Int))))
def obsM (fs : List (Fr → Bool)) (ds : List DfM) (ts : List He.Tab) (K : Fr) : AlM := (fs.all fun f => f K, ds.map fun d => fnV K (d.at_ K), ts.map fun t => He.dicW K (t.1 K))
def valM (ds : List DfM) (ts : List He.Tab) (w : World) : AlM := (true, ds.map DfM.val, ts.map fun t => some (He.keysIn w.params t.2))
def asM : Nat → List Addr
  | 0 => []
  | n + 1 => n :: asM n
def obsMG (n : Nat) (fs : List (Fr → Bool)) (ds : List DfM) (ts : List He.Tab) (g : Addr → Option Obj) : AlM := obsM fs ds ts (He.frG g (asM n))
def hookM (n : Nat) (fs : List (Fr → Bool)) (ds : List DfM) (ts : List He.Tab) : PySem.W.Hook where
  α := AlM
  obs := fun s => obsMG n fs ds ts s.heap.get?
  val := fun w => valM ds ts w
  says := fun w h => ∃ K : Fr, K.In h ∧ obsM fs ds ts K = valM ds ts w
  of := fun _ _ e => ⟨_, He.frG_in, e⟩
  keeps := fun _ _ _ ⟨K, hK, c⟩ k => ⟨K, PySem.W.Frag.In.keeps hK k, c⟩
theorem obsMG_eq {n : Nat} {fs : List (Fr → Bool)} {ds : List DfM} {ts : List He.Tab} {g : Addr → Option Obj} {s : Shared} (h : ∀ a, g a = s.heap.get? a) : obsMG n fs ds ts g = (hookM n fs ds ts).obs s := by
  have e : g = s.heap.get? := funext h
  rw [e] <;> rfl
section
variable {fs : List (Fr → Bool)} {ds : List DfM} {ts : List He.Tab} {w : World} {K : Fr}
theorem fact (c : obsM fs ds ts K = valM ds ts w) (i : Nat) {f : Fr → Bool} (h : fs[i]? = some f) : f K = true := by
  have c1 : (fs.all fun f => f K) = true := congrArg (fun z : AlM => z.1) c
  exact List.all_eq_true.mp c1 f (List.mem_of_getElem? h)
theorem dfnM (c : obsM fs ds ts K = valM ds ts w) (i : Nat) {d : DfM} (h : ds[i]? = some d) : fnV K (d.at_ K) = d.val := by
  have e : ds.map (fun d => fnV K (d.at_ K)) = ds.map DfM.val := congrArg (fun z : AlM => z.2.1) c
  have e2 : (ds.map fun d => fnV K (d.at_ K))[i]? = (ds.map DfM.val)[i]? := by rw [e]
  rw [List.getElem?_map, List.getElem?_map, h] at e2
  exact Option.some.inj e2
end
section
variable {K : Fr} {a C : Addr} {name qual : Str} {st : Stmt}
theorem b2 {a b : Bool} (h : (a && b) = true) : a = true ∧ b = true := Bool.and_eq_true_iff.mp h
def dfB (K : Fr) (a : Addr) (qual : Str) (dvs : List V) : Bool := PySem.W.keepIn K (.ref a) && (match K.lookup a with
  | some ⟨_, _, .func fd, _⟩ => PySem.W.codeIn K fd.code qual && He.dflB K fd.defaults dvs
  | _ => false)
theorem df_ex {dvs : List V} (e : fnV K a = some (name, qual, defArgs st, .stmts (defBody st), defScope st, mainGlobals, [], builtinsNs)) (c : dfB K a qual dvs = true) :
    ∃ (oc : Value) (od : Option Addr) (dV kV doc pm : Value) (an : Option Addr) (cdv ct : Value) (osl : Array (Option Value)), K.lookup a = some ⟨oc, od, .func (PySem.W.fnOf name qual (defArgs st) (defBody st) (defScope st) dV kV doc pm an cdv ct), osl⟩ ∧ PySem.W.codeIn K cdv qual = true ∧ PySem.W.keepIn K (.ref a) = true ∧ DflV K dV dvs := by
  obtain ⟨kp, c2⟩ := b2 c
  unfold fnV at e
  cases q : K.lookup a with
  | none => rw [q] at c2; cases c2
  | some o =>
    obtain ⟨oc, od, dt, osl⟩ := o
    rw [q] at c2 e
    cases dt with
    | func fd =>
      obtain ⟨n1, n2, n3, n4, n5, n6, n7, n8, n9, n10, n11, n12, n13, n14, n15⟩ := fd
      have e2 : (some (n1, n2, n3, n4, n5, n6, n7.map (·.1), n15) : FnV) = some (name, qual, defArgs st, .stmts (defBody st), defScope st, mainGlobals, [], builtinsNs) := e
      simp only [Option.some.injEq, Prod.mk.injEq, List.map_eq_nil_iff] at e2
      obtain ⟨h1, h2, h3, h4, h5, h6, h7, h8⟩ := e2
      subst h1 h2 h3 h4 h5 h6 h7 h8
      obtain ⟨k1, k2⟩ := b2 (show (PySem.W.codeIn K n13 n2 && He.dflB K n8 dvs) = true from c2)
      exact ⟨oc, od, n8, n9, n10, n11, n12, n13, n14, osl, rfl, k1, kp, He.dflB_ok k2⟩
    | _ => cases c2
theorem fun_of (e : fnV K a = some (name, qual, defArgs st, .stmts (defBody st), defScope st, mainGlobals, [], builtinsNs)) (c : dfB K a qual [] = true) : ∃ fd, Fun K name qual st a fd := by
  obtain ⟨oc, od, dV, kV, doc, pm, an, cdv, ct, osl, l, cd, kp, d⟩ := df_ex e c
  rcases d with ⟨_, rfl⟩ | ⟨n, _⟩
  · exact ⟨_, ⟨oc, od, kV, doc, pm, an, cdv, ct, osl, rfl, l, cd⟩, kp⟩
  · exact absurd rfl n
theorem fun_b1 {fd : FuncData} {x : Str} (F : Fun K name qual st a fd) (h : ∀ (kV doc pm : Value) (an : Option Addr) (cdv ct : Value) (u : Value), bindArgs (PySem.W.fnOf name qual (defArgs st) (defBody st) (defScope st) .none kV doc pm an cdv ct) ⟨[u], []⟩ = pure [(x, u)]) (s : Shared) (u : Value) : BindsTo s fd ⟨[u], []⟩ [(x, u)] := by
  obtain ⟨oc, od, kV, doc, pm, an, cdv, ct, osl, rfl, lk, hcd⟩ := F.ex
  exact .of_eq (h kV doc pm an cdv ct u)
end
theorem walkGE {l : PySem.W.OpenLaw} {n k : Nat} {q : Program} {loose : List Str} {XP : (Str → Option Value) → Heap → Prop} {YP : World → Heap → Prop} {d : DefRec} {x : Str}
    (hn : l.most = some n) (hn2 : n ≤ sizeLine) (hdf : d.params.defaults = []) (hr : Room k callerA)
    (F : ∀ (w : World) (mg : Str → Option Value) (fa : Addr) (h : Heap), YP w h → h.Ns mainGlobals mg → mg d.name = some (.ref fa) →
      ∃ (K : PySem.W.Frag) (fd : FuncData) (sp : Sp), K.In h ∧ (∀ (s : Shared) (u : Value), BindsTo s fd ⟨[u], []⟩ [(x, u)]) ∧
        (∀ (H : Hp) (a : Addr) (ns : List Int), ns.length ≤ n → Only H → SqL K H a (ns.map V.int) → sp [.ref a] H (fun v _ => v = .bl true) fun _ _ _ => False) ∧
        ∀ base : Heap, K.In base → base.Ns mainGlobals mg → FnG l.prog w K mg base CX0 k fa fd [x] sp) :
    PySem.W.WalkO q loose XP YP l.row.toRowW d [] (fun f vs => PySem.call f vs) := by
  refine Att.attach_call hn hdf fun w s₀ s₁ mg mb fa o pm cd doc a vs ns G Y ho hd hcd hmg hobj hints hlen hg => ?_
  obtain ⟨K, fd, sp, KX, hb, hsp, hF⟩ := F w mg fa _ Y G.T.g hmg
  exact law_callG KX G.T.g G.T.b G.T.builtins G.T.nolimit hg hobj hints (Nat.le_trans hlen hn2) hr hF hb (fun H hO hS => hsp H a ns hlen hO hS) fun H e s' z => z
end Sn
namespace Sn
open PySem PySem.Spec PyProof.Rows L2
def top (i : Nat) : Stmt := PySem.Challenge.pw_sparenames_k05_trees_recognized.main.body.getD i (.Pass ⟨0, 0, 0, 0⟩)
abbrev s_is_word : Stmt := top 5
abbrev s_is_name : Stmt := top 6
abbrev s_are_different : Stmt := top 7
abbrev s_are_names : Stmt := top 8
abbrev s_are_pairs : Stmt := top 15
abbrev s_is_part : Stmt := top 16
abbrev s_is_expr : Stmt := top 17
abbrev s_is_target : Stmt := top 18
abbrev s_are_given : Stmt := top 19
abbrev s_is_block : Stmt := top 20
abbrev s_is_other : Stmt := top 21
abbrev s_is_statement : Stmt := top 22
abbrev s_is_item : Stmt := top 23
abbrev s_is_tree : Stmt := top 24
abbrev s_law_begun : Stmt := top 26
abbrev s_law_mixed : Stmt := top 27
abbrev s_law_take : Stmt := top 28
abbrev s_law_pick : Stmt := top 29
abbrev s_law_reserved : Stmt := top 30
abbrev s_law_any_word : Stmt := top 31
abbrev s_law_any_name : Stmt := top 32
abbrev s_law_names : Stmt := top 33
abbrev s_law_expr : Stmt := top 34
abbrev s_law_target : Stmt := top 35
abbrev s_law_row : Stmt := top 36
abbrev s_law_block : Stmt := top 37
abbrev s_law_item : Stmt := top 38
abbrev s_law_tree : Stmt := top 39
abbrev s_law_is_word : Stmt := top 40
abbrev s_law_is_name : Stmt := top 41
abbrev s_law_is_row : Stmt := top 42
abbrev s_law_are_names : Stmt := top 43
abbrev s_law_is_expr : Stmt := top 44
abbrev s_law_is_call : Stmt := top 45
abbrev s_law_is_statement : Stmt := top 46
abbrev s_law_is_block : Stmt := top 47
abbrev s_law_is_item : Stmt := top 48
abbrev s_law_are_pairs : Stmt := top 49
abbrev s_law_is_tree : Stmt := top 50
abbrev s_law_bent : Stmt := top 51
abbrev s_law_deep : Stmt := top 52
abbrev s_law : Stmt := top 53
abbrev n_is_word : List Str := ["value", "sign"]
theorem sc_is_word : FnScope n_is_word ["value"] (defScope s_is_word) := ⟨rfl, rfl, rfl, by decide +kernel, rfl, by decide +kernel, by decide +kernel⟩
abbrev n_is_name : List Str := ["value"]
theorem sc_is_name : FnScope n_is_name ["value"] (defScope s_is_name) := ⟨rfl, rfl, rfl, by decide +kernel, rfl, by decide +kernel, by decide +kernel⟩
abbrev n_are_different : List Str := ["values", "value"]
theorem sc_are_different : FnScope n_are_different ["values"] (defScope s_are_different) := ⟨rfl, rfl, rfl, by decide +kernel, rfl, by decide +kernel, by decide +kernel⟩
abbrev n_are_names : List Str := ["value", "least", "most", "name"]
theorem sc_are_names : FnScope n_are_names ["value", "least", "most"] (defScope s_are_names) := ⟨rfl, rfl, rfl, by decide +kernel, rfl, by decide +kernel, by decide +kernel⟩
abbrev n_are_pairs : List Str := ["value", "pair", "key", "name"]
theorem sc_are_pairs : FnScope n_are_pairs ["value"] (defScope s_are_pairs) := ⟨rfl, rfl, rfl, by decide +kernel, rfl, by decide +kernel, by decide +kernel⟩
abbrev n_is_part : List Str := ["value"]
theorem sc_is_part : FnScope n_is_part ["value"] (defScope s_is_part) := ⟨rfl, rfl, rfl, by decide +kernel, rfl, by decide +kernel, by decide +kernel⟩
abbrev n_is_expr : List Str := ["value", "part"]
theorem sc_is_expr : FnScope n_is_expr ["value"] (defScope s_is_expr) := ⟨rfl, rfl, rfl, by decide +kernel, rfl, by decide +kernel, by decide +kernel⟩
abbrev n_is_target : List Str := ["value"]
theorem sc_is_target : FnScope n_is_target ["value"] (defScope s_is_target) := ⟨rfl, rfl, rfl, by decide +kernel, rfl, by decide +kernel, by decide +kernel⟩
abbrev n_are_given : List Str := ["value", "expr"]
theorem sc_are_given : FnScope n_are_given ["value"] (defScope s_are_given) := ⟨rfl, rfl, rfl, by decide +kernel, rfl, by decide +kernel, by decide +kernel⟩
abbrev n_is_block : List Str := ["value", "level", "row"]
theorem sc_is_block : FnScope n_is_block ["value", "level"] (defScope s_is_block) := ⟨rfl, rfl, rfl, by decide +kernel, rfl, by decide +kernel, by decide +kernel⟩
abbrev n_is_other : List Str := ["value", "level"]
theorem sc_is_other : FnScope n_is_other ["value", "level"] (defScope s_is_other) := ⟨rfl, rfl, rfl, by decide +kernel, rfl, by decide +kernel, by decide +kernel⟩
abbrev n_is_statement : List Str := ["value", "level", "word", "rest"]
theorem sc_is_statement : FnScope n_is_statement ["value", "level"] (defScope s_is_statement) := ⟨rfl, rfl, rfl, by decide +kernel, rfl, by decide +kernel, by decide +kernel⟩
abbrev n_is_item : List Str := ["value", "word", "rest"]
theorem sc_is_item : FnScope n_is_item ["value"] (defScope s_is_item) := ⟨rfl, rfl, rfl, by decide +kernel, rfl, by decide +kernel, by decide +kernel⟩
abbrev n_is_tree : List Str := ["value", "item"]
theorem sc_is_tree : FnScope n_is_tree ["value"] (defScope s_is_tree) := ⟨rfl, rfl, rfl, by decide +kernel, rfl, by decide +kernel, by decide +kernel⟩
abbrev n_law_begun : List Str := ["_law_script", "_law_great", "_law_cell"]
theorem sc_law_begun : FnScope n_law_begun ["_law_script"] (defScope s_law_begun) := ⟨rfl, rfl, rfl, by decide +kernel, rfl, by decide +kernel, by decide +kernel⟩
abbrev n_law_mixed : List Str := ["_law_state", "_law_found", "_law_prime", "_law_blend", "_law_cell"]
theorem sc_law_mixed : FnScope n_law_mixed ["_law_state"] (defScope s_law_mixed) := ⟨rfl, rfl, rfl, by decide +kernel, rfl, by decide +kernel, by decide +kernel⟩
abbrev n_law_take : List Str := ["_law_state", "_law_size", "_law_found"]
theorem sc_law_take : FnScope n_law_take ["_law_state", "_law_size"] (defScope s_law_take) := ⟨rfl, rfl, rfl, by decide +kernel, rfl, by decide +kernel, by decide +kernel⟩
abbrev n_law_pick : List Str := ["_law_state", "_law_some"]
theorem sc_law_pick : FnScope n_law_pick ["_law_state", "_law_some"] (defScope s_law_pick) := ⟨rfl, rfl, rfl, by decide +kernel, rfl, by decide +kernel, by decide +kernel⟩
abbrev n_law_reserved : List Str := ["_law_words"]
theorem sc_law_reserved : FnScope n_law_reserved [] (defScope s_law_reserved) := ⟨rfl, rfl, rfl, by decide +kernel, rfl, by decide +kernel, by decide +kernel⟩
abbrev n_law_any_word : List Str := ["_law_state", "_law_least", "_law_most", "_law_signs", "_law_turn"]
theorem sc_law_any_word : FnScope n_law_any_word ["_law_state", "_law_least", "_law_most"] (defScope s_law_any_word) := ⟨rfl, rfl, rfl, by decide +kernel, rfl, by decide +kernel, by decide +kernel⟩
abbrev n_law_any_name : List Str := ["_law_state", "_law_near", "_law_word"]
theorem sc_law_any_name : FnScope n_law_any_name ["_law_state"] (defScope s_law_any_name) := ⟨rfl, rfl, rfl, by decide +kernel, rfl, by decide +kernel, by decide +kernel⟩
abbrev n_law_names : List Str := ["_law_state", "_law_many", "_law_found", "_law_turn", "_law_word", "_law_some", "_law_k", "_law_here"]
theorem sc_law_names : FnScope n_law_names ["_law_state", "_law_many"] (defScope s_law_names) := ⟨rfl, rfl, rfl, by decide +kernel, rfl, by decide +kernel, by decide +kernel⟩
abbrev n_law_expr : List Str := ["_law_state", "_law_kit", "_law_parts", "_law_turn"]
theorem sc_law_expr : FnScope n_law_expr ["_law_state", "_law_kit"] (defScope s_law_expr) := ⟨rfl, rfl, rfl, by decide +kernel, rfl, by decide +kernel, by decide +kernel⟩
abbrev n_law_target : List Str := ["_law_state", "_law_kit", "_law_way"]
theorem sc_law_target : FnScope n_law_target ["_law_state", "_law_kit"] (defScope s_law_target) := ⟨rfl, rfl, rfl, by decide +kernel, rfl, by decide +kernel, by decide +kernel⟩
abbrev n_law_row : List Str := ["_law_state", "_law_kit", "_law_level", "_law_way", "_law_name", "_law_word", "_law_target_here", "_law_given", "_law_block_here", "_law_has_other", "_law_expr_here", "_law_other", "_law_turn"]
theorem sc_law_row : FnScope n_law_row ["_law_state", "_law_kit", "_law_level"] (defScope s_law_row) := ⟨rfl, rfl, rfl, by decide +kernel, rfl, by decide +kernel, by decide +kernel⟩
abbrev n_law_block : List Str := ["_law_state", "_law_kit", "_law_level", "_law_found"]
theorem sc_law_block : FnScope n_law_block ["_law_state", "_law_kit", "_law_level"] (defScope s_law_block) := ⟨rfl, rfl, rfl, by decide +kernel, rfl, by decide +kernel, by decide +kernel⟩
abbrev n_law_item : List Str := ["_law_state", "_law_kit", "_law_own", "_law_way", "_law_names_here", "_law_begin", "_law_keys", "_law_params", "_law_k", "_law_key"]
theorem sc_law_item : FnScope n_law_item ["_law_state", "_law_kit", "_law_own"] (defScope s_law_item) := ⟨rfl, rfl, rfl, by decide +kernel, rfl, by decide +kernel, by decide +kernel⟩
abbrev n_law_tree : List Str := ["_law_state", "_law_names_here", "_law_words", "_law_kit", "_law_own", "_law_k"]
theorem sc_law_tree : FnScope n_law_tree ["_law_state"] (defScope s_law_tree) := ⟨rfl, rfl, rfl, by decide +kernel, rfl, by decide +kernel, by decide +kernel⟩
abbrev n_law_is_word : List Str := ["_law_worth", "_law_signs", "_law_sign"]
theorem sc_law_is_word : FnScope n_law_is_word ["_law_worth"] (defScope s_law_is_word) := ⟨rfl, rfl, rfl, by decide +kernel, rfl, by decide +kernel, by decide +kernel⟩
abbrev n_law_is_name : List Str := ["_law_worth"]
theorem sc_law_is_name : FnScope n_law_is_name ["_law_worth"] (defScope s_law_is_name) := ⟨rfl, rfl, rfl, by decide +kernel, rfl, by decide +kernel, by decide +kernel⟩
abbrev n_law_is_row : List Str := ["_law_worth", "_law_sizes"]
theorem sc_law_is_row : FnScope n_law_is_row ["_law_worth", "_law_sizes"] (defScope s_law_is_row) := ⟨rfl, rfl, rfl, by decide +kernel, rfl, by decide +kernel, by decide +kernel⟩
abbrev n_law_are_names : List Str := ["_law_worth", "_law_least", "_law_most", "_law_k"]
theorem sc_law_are_names : FnScope n_law_are_names ["_law_worth", "_law_least", "_law_most"] (defScope s_law_are_names) := ⟨rfl, rfl, rfl, by decide +kernel, rfl, by decide +kernel, by decide +kernel⟩
abbrev n_law_is_expr : List Str := ["_law_worth", "_law_part"]
theorem sc_law_is_expr : FnScope n_law_is_expr ["_law_worth"] (defScope s_law_is_expr) := ⟨rfl, rfl, rfl, by decide +kernel, rfl, by decide +kernel, by decide +kernel⟩
abbrev n_law_is_call : List Str := ["_law_row_here", "_law_target_here", "_law_given", "_law_expr_here"]
theorem sc_law_is_call : FnScope n_law_is_call ["_law_row_here"] (defScope s_law_is_call) := ⟨rfl, rfl, rfl, by decide +kernel, rfl, by decide +kernel, by decide +kernel⟩
abbrev n_law_is_statement : List Str := ["_law_row_here", "_law_level", "_law_word", "_law_size", "_law_blocks", "_law_block_here"]
theorem sc_law_is_statement : FnScope n_law_is_statement ["_law_row_here", "_law_level"] (defScope s_law_is_statement) := ⟨rfl, rfl, rfl, by decide +kernel, rfl, by decide +kernel, by decide +kernel⟩
abbrev n_law_is_block : List Str := ["_law_worth", "_law_level", "_law_row_here"]
theorem sc_law_is_block : FnScope n_law_is_block ["_law_worth", "_law_level"] (defScope s_law_is_block) := ⟨rfl, rfl, rfl, by decide +kernel, rfl, by decide +kernel, by decide +kernel⟩
abbrev n_law_is_item : List Str := ["_law_item_here", "_law_word", "_law_size"]
theorem sc_law_is_item : FnScope n_law_is_item ["_law_item_here"] (defScope s_law_is_item) := ⟨rfl, rfl, rfl, by decide +kernel, rfl, by decide +kernel, by decide +kernel⟩
abbrev n_law_are_pairs : List Str := ["_law_worth", "_law_keys", "_law_pair"]
theorem sc_law_are_pairs : FnScope n_law_are_pairs ["_law_worth"] (defScope s_law_are_pairs) := ⟨rfl, rfl, rfl, by decide +kernel, rfl, by decide +kernel, by decide +kernel⟩
abbrev n_law_is_tree : List Str := ["_law_worth", "_law_own", "_law_item_here", "_law_k"]
theorem sc_law_is_tree : FnScope n_law_is_tree ["_law_worth"] (defScope s_law_is_tree) := ⟨rfl, rfl, rfl, by decide +kernel, rfl, by decide +kernel, by decide +kernel⟩
abbrev n_law_bent : List Str := ["_law_state", "_law_worth", "_law_extra", "_law_odd", "_law_at", "_law_way", "_law_is_last", "_law_some"]
theorem sc_law_bent : FnScope n_law_bent ["_law_state", "_law_worth", "_law_extra"] (defScope s_law_bent) := ⟨rfl, rfl, rfl, by decide +kernel, rfl, by decide +kernel, by decide +kernel⟩
abbrev n_law_deep : List Str := ["_law_state", "_law_deep_here", "_law_plain", "_law_expr_here", "_law_block_here", "_law_turn", "_law_kind", "_law_is_second", "_law_pair", "_law_rows"]
theorem sc_law_deep : FnScope n_law_deep ["_law_state"] (defScope s_law_deep) := ⟨rfl, rfl, rfl, by decide +kernel, rfl, by decide +kernel, by decide +kernel⟩
abbrev n_law : List Str := ["_law_script", "_law_state", "_law_turn", "_law_tree_here", "_law_is_good", "_law_extra", "_law_worth", "_law_bend", "_law_odd", "_law_item_here"]
theorem sc_law : FnScope n_law ["_law_script"] (defScope s_law) := ⟨rfl, rfl, rfl, by decide +kernel, rfl, by decide +kernel, by decide +kernel⟩
/-- what the top has left: the defs, the constants, the names that are still built in -/
structure Txt (K : PySem.W.Frag) (mg : Str → Option Value) where
  f_is_word : Addr
  fd_is_word : FuncData
  F_is_word : Fun K "is_word" "is_word" s_is_word f_is_word fd_is_word
  g_is_word : mg "is_word" = some (.ref f_is_word)
  b_is_word : Binds K fd_is_word ["value"] []
  f_is_name : Addr
  fd_is_name : FuncData
  F_is_name : Fun K "is_name" "is_name" s_is_name f_is_name fd_is_name
  g_is_name : mg "is_name" = some (.ref f_is_name)
  b_is_name : Binds K fd_is_name ["value"] []
  f_are_different : Addr
  fd_are_different : FuncData
  F_are_different : Fun K "are_different" "are_different" s_are_different f_are_different fd_are_different
  g_are_different : mg "are_different" = some (.ref f_are_different)
  b_are_different : Binds K fd_are_different ["values"] []
  f_are_names : Addr
  fd_are_names : FuncData
  F_are_names : Fun K "are_names" "are_names" s_are_names f_are_names fd_are_names
  g_are_names : mg "are_names" = some (.ref f_are_names)
  b_are_names : Binds K fd_are_names ["value", "least", "most"] []
  f_are_pairs : Addr
  fd_are_pairs : FuncData
  F_are_pairs : Fun K "are_pairs" "are_pairs" s_are_pairs f_are_pairs fd_are_pairs
  g_are_pairs : mg "are_pairs" = some (.ref f_are_pairs)
  b_are_pairs : Binds K fd_are_pairs ["value"] []
  f_is_part : Addr
  fd_is_part : FuncData
  F_is_part : Fun K "is_part" "is_part" s_is_part f_is_part fd_is_part
  g_is_part : mg "is_part" = some (.ref f_is_part)
  b_is_part : Binds K fd_is_part ["value"] []
  f_is_expr : Addr
  fd_is_expr : FuncData
  F_is_expr : Fun K "is_expr" "is_expr" s_is_expr f_is_expr fd_is_expr
  g_is_expr : mg "is_expr" = some (.ref f_is_expr)
  b_is_expr : Binds K fd_is_expr ["value"] []
  f_is_target : Addr
  fd_is_target : FuncData
  F_is_target : Fun K "is_target" "is_target" s_is_target f_is_target fd_is_target
  g_is_target : mg "is_target" = some (.ref f_is_target)
  b_is_target : Binds K fd_is_target ["value"] []
  f_are_given : Addr
  fd_are_given : FuncData
  F_are_given : Fun K "are_given" "are_given" s_are_given f_are_given fd_are_given
  g_are_given : mg "are_given" = some (.ref f_are_given)
  b_are_given : Binds K fd_are_given ["value"] []
  f_is_block : Addr
  fd_is_block : FuncData
  F_is_block : Fun K "is_block" "is_block" s_is_block f_is_block fd_is_block
  g_is_block : mg "is_block" = some (.ref f_is_block)
  b_is_block : Binds K fd_is_block ["value", "level"] []
  f_is_other : Addr
  fd_is_other : FuncData
  F_is_other : Fun K "is_other" "is_other" s_is_other f_is_other fd_is_other
  g_is_other : mg "is_other" = some (.ref f_is_other)
  b_is_other : Binds K fd_is_other ["value", "level"] []
  f_is_statement : Addr
  fd_is_statement : FuncData
  F_is_statement : Fun K "is_statement" "is_statement" s_is_statement f_is_statement fd_is_statement
  g_is_statement : mg "is_statement" = some (.ref f_is_statement)
  b_is_statement : Binds K fd_is_statement ["value", "level"] []
  f_is_item : Addr
  fd_is_item : FuncData
  F_is_item : Fun K "is_item" "is_item" s_is_item f_is_item fd_is_item
  g_is_item : mg "is_item" = some (.ref f_is_item)
  b_is_item : Binds K fd_is_item ["value"] []
  f_is_tree : Addr
  fd_is_tree : FuncData
  F_is_tree : Fun K "is_tree" "is_tree" s_is_tree f_is_tree fd_is_tree
  g_is_tree : mg "is_tree" = some (.ref f_is_tree)
  b_is_tree : Binds K fd_is_tree ["value"] []
  f_law_begun : Addr
  fd_law_begun : FuncData
  F_law_begun : Fun K "_law_begun" "_law_begun" s_law_begun f_law_begun fd_law_begun
  g_law_begun : mg "_law_begun" = some (.ref f_law_begun)
  b_law_begun : Binds K fd_law_begun ["_law_script"] []
  f_law_mixed : Addr
  fd_law_mixed : FuncData
  F_law_mixed : Fun K "_law_mixed" "_law_mixed" s_law_mixed f_law_mixed fd_law_mixed
  g_law_mixed : mg "_law_mixed" = some (.ref f_law_mixed)
  b_law_mixed : Binds K fd_law_mixed ["_law_state"] []
  f_law_take : Addr
  fd_law_take : FuncData
  F_law_take : Fun K "_law_take" "_law_take" s_law_take f_law_take fd_law_take
  g_law_take : mg "_law_take" = some (.ref f_law_take)
  b_law_take : Binds K fd_law_take ["_law_state", "_law_size"] []
  f_law_pick : Addr
  fd_law_pick : FuncData
  F_law_pick : Fun K "_law_pick" "_law_pick" s_law_pick f_law_pick fd_law_pick
  g_law_pick : mg "_law_pick" = some (.ref f_law_pick)
  b_law_pick : Binds K fd_law_pick ["_law_state", "_law_some"] []
  f_law_reserved : Addr
  fd_law_reserved : FuncData
  F_law_reserved : Fun K "_law_reserved" "_law_reserved" s_law_reserved f_law_reserved fd_law_reserved
  g_law_reserved : mg "_law_reserved" = some (.ref f_law_reserved)
  b_law_reserved : Binds K fd_law_reserved [] []
  f_law_any_word : Addr
  fd_law_any_word : FuncData
  F_law_any_word : Fun K "_law_any_word" "_law_any_word" s_law_any_word f_law_any_word fd_law_any_word
  g_law_any_word : mg "_law_any_word" = some (.ref f_law_any_word)
  b_law_any_word : Binds K fd_law_any_word ["_law_state", "_law_least", "_law_most"] []
  f_law_any_name : Addr
  fd_law_any_name : FuncData
  F_law_any_name : Fun K "_law_any_name" "_law_any_name" s_law_any_name f_law_any_name fd_law_any_name
  g_law_any_name : mg "_law_any_name" = some (.ref f_law_any_name)
  b_law_any_name : Binds K fd_law_any_name ["_law_state"] []
  f_law_names : Addr
  fd_law_names : FuncData
  F_law_names : Fun K "_law_names" "_law_names" s_law_names f_law_names fd_law_names
  g_law_names : mg "_law_names" = some (.ref f_law_names)
  b_law_names : Binds K fd_law_names ["_law_state", "_law_many"] []
  f_law_expr : Addr
  fd_law_expr : FuncData
  F_law_expr : Fun K "_law_expr" "_law_expr" s_law_expr f_law_expr fd_law_expr
  g_law_expr : mg "_law_expr" = some (.ref f_law_expr)
  b_law_expr : Binds K fd_law_expr ["_law_state", "_law_kit"] []
  f_law_target : Addr
  fd_law_target : FuncData
  F_law_target : Fun K "_law_target" "_law_target" s_law_target f_law_target fd_law_target
  g_law_target : mg "_law_target" = some (.ref f_law_target)
  b_law_target : Binds K fd_law_target ["_law_state", "_law_kit"] []
  f_law_row : Addr
  fd_law_row : FuncData
  F_law_row : Fun K "_law_row" "_law_row" s_law_row f_law_row fd_law_row
  g_law_row : mg "_law_row" = some (.ref f_law_row)
  b_law_row : Binds K fd_law_row ["_law_state", "_law_kit", "_law_level"] []
  f_law_block : Addr
  fd_law_block : FuncData
  F_law_block : Fun K "_law_block" "_law_block" s_law_block f_law_block fd_law_block
  g_law_block : mg "_law_block" = some (.ref f_law_block)
  b_law_block : Binds K fd_law_block ["_law_state", "_law_kit", "_law_level"] []
  f_law_item : Addr
  fd_law_item : FuncData
  F_law_item : Fun K "_law_item" "_law_item" s_law_item f_law_item fd_law_item
  g_law_item : mg "_law_item" = some (.ref f_law_item)
  b_law_item : Binds K fd_law_item ["_law_state", "_law_kit", "_law_own"] []
  f_law_tree : Addr
  fd_law_tree : FuncData
  F_law_tree : Fun K "_law_tree" "_law_tree" s_law_tree f_law_tree fd_law_tree
  g_law_tree : mg "_law_tree" = some (.ref f_law_tree)
  b_law_tree : Binds K fd_law_tree ["_law_state"] []
  f_law_is_word : Addr
  fd_law_is_word : FuncData
  F_law_is_word : Fun K "_law_is_word" "_law_is_word" s_law_is_word f_law_is_word fd_law_is_word
  g_law_is_word : mg "_law_is_word" = some (.ref f_law_is_word)
  b_law_is_word : Binds K fd_law_is_word ["_law_worth"] []
  f_law_is_name : Addr
  fd_law_is_name : FuncData
  F_law_is_name : Fun K "_law_is_name" "_law_is_name" s_law_is_name f_law_is_name fd_law_is_name
  g_law_is_name : mg "_law_is_name" = some (.ref f_law_is_name)
  b_law_is_name : Binds K fd_law_is_name ["_law_worth"] []
  f_law_is_row : Addr
  fd_law_is_row : FuncData
  F_law_is_row : Fun K "_law_is_row" "_law_is_row" s_law_is_row f_law_is_row fd_law_is_row
  g_law_is_row : mg "_law_is_row" = some (.ref f_law_is_row)
  b_law_is_row : Binds K fd_law_is_row ["_law_worth", "_law_sizes"] []
  f_law_are_names : Addr
  fd_law_are_names : FuncData
  F_law_are_names : Fun K "_law_are_names" "_law_are_names" s_law_are_names f_law_are_names fd_law_are_names
  g_law_are_names : mg "_law_are_names" = some (.ref f_law_are_names)
  b_law_are_names : Binds K fd_law_are_names ["_law_worth", "_law_least", "_law_most"] []
  f_law_is_expr : Addr
  fd_law_is_expr : FuncData
  F_law_is_expr : Fun K "_law_is_expr" "_law_is_expr" s_law_is_expr f_law_is_expr fd_law_is_expr
  g_law_is_expr : mg "_law_is_expr" = some (.ref f_law_is_expr)
  b_law_is_expr : Binds K fd_law_is_expr ["_law_worth"] []
  f_law_is_call : Addr
  fd_law_is_call : FuncData
  F_law_is_call : Fun K "_law_is_call" "_law_is_call" s_law_is_call f_law_is_call fd_law_is_call
  g_law_is_call : mg "_law_is_call" = some (.ref f_law_is_call)
  b_law_is_call : Binds K fd_law_is_call ["_law_row_here"] []
  f_law_is_statement : Addr
  fd_law_is_statement : FuncData
  F_law_is_statement : Fun K "_law_is_statement" "_law_is_statement" s_law_is_statement f_law_is_statement fd_law_is_statement
  g_law_is_statement : mg "_law_is_statement" = some (.ref f_law_is_statement)
  b_law_is_statement : Binds K fd_law_is_statement ["_law_row_here", "_law_level"] []
  f_law_is_block : Addr
  fd_law_is_block : FuncData
  F_law_is_block : Fun K "_law_is_block" "_law_is_block" s_law_is_block f_law_is_block fd_law_is_block
  g_law_is_block : mg "_law_is_block" = some (.ref f_law_is_block)
  b_law_is_block : Binds K fd_law_is_block ["_law_worth", "_law_level"] []
  f_law_is_item : Addr
  fd_law_is_item : FuncData
  F_law_is_item : Fun K "_law_is_item" "_law_is_item" s_law_is_item f_law_is_item fd_law_is_item
  g_law_is_item : mg "_law_is_item" = some (.ref f_law_is_item)
  b_law_is_item : Binds K fd_law_is_item ["_law_item_here"] []
  f_law_are_pairs : Addr
  fd_law_are_pairs : FuncData
  F_law_are_pairs : Fun K "_law_are_pairs" "_law_are_pairs" s_law_are_pairs f_law_are_pairs fd_law_are_pairs
  g_law_are_pairs : mg "_law_are_pairs" = some (.ref f_law_are_pairs)
  b_law_are_pairs : Binds K fd_law_are_pairs ["_law_worth"] []
  f_law_is_tree : Addr
  fd_law_is_tree : FuncData
  F_law_is_tree : Fun K "_law_is_tree" "_law_is_tree" s_law_is_tree f_law_is_tree fd_law_is_tree
  g_law_is_tree : mg "_law_is_tree" = some (.ref f_law_is_tree)
  b_law_is_tree : Binds K fd_law_is_tree ["_law_worth"] []
  f_law_bent : Addr
  fd_law_bent : FuncData
  F_law_bent : Fun K "_law_bent" "_law_bent" s_law_bent f_law_bent fd_law_bent
  g_law_bent : mg "_law_bent" = some (.ref f_law_bent)
  b_law_bent : Binds K fd_law_bent ["_law_state", "_law_worth", "_law_extra"] []
  f_law_deep : Addr
  fd_law_deep : FuncData
  F_law_deep : Fun K "_law_deep" "_law_deep" s_law_deep f_law_deep fd_law_deep
  g_law_deep : mg "_law_deep" = some (.ref f_law_deep)
  b_law_deep : Binds K fd_law_deep ["_law_state"] []
  f_law : Addr
  fd_law : FuncData
  F_law : Fun K "law" "law" s_law f_law fd_law
  g_law : mg "law" = some (.ref f_law)
  b_law : Binds K fd_law ["_law_script"] []
  c_LETTERS : ∃ t, mg "LETTERS" = some (.str "abcdefghijklmnopqrstuvwxyz" t)
  c_SIGNS : ∃ t, mg "SIGNS" = some (.str "abcdefghijklmnopqrstuvwxyz0123456789_" t)
  c_MOST_SIGNS : ∃ t, mg "MOST_SIGNS" = some (.int 8 t)
  a_RESERVED : Addr
  c_RESERVED : mg "RESERVED" = some (.ref a_RESERVED)
  q_RESERVED : ∀ H, SqT K H a_RESERVED [V.str "as", V.str "ask", V.str "call", V.str "def", V.str "each", V.str "else", V.str "entry", V.str "except", V.str "fail", V.str "if", V.str "in", V.str "let", V.str "offer", V.str "return", V.str "set", V.str "table", V.str "there", V.str "try", V.str "use"]
  c_MOST_PARTS : ∃ t, mg "MOST_PARTS" = some (.int 4 t)
  c_MOST_GIVEN : ∃ t, mg "MOST_GIVEN" = some (.int 3 t)
  c_MOST_PAIRS : ∃ t, mg "MOST_PAIRS" = some (.int 12 t)
  c_MOST_LEVELS : ∃ t, mg "MOST_LEVELS" = some (.int 4 t)
  a_BINDERS : Addr
  c_BINDERS : mg "BINDERS" = some (.ref a_BINDERS)
  q_BINDERS : ∀ H, SqT K H a_BINDERS [V.str "use", V.str "set", V.str "table", V.str "def"]
  z_isinstance : mg "isinstance" = none
  z_str : mg "str" = none
  z_all : mg "all" = none
  z_len : mg "len" = none
  z_tuple : mg "tuple" = none
  z_list : mg "list" = none
  z_int : mg "int" = none
  z_range : mg "range" = none
  z_min : mg "min" = none
  z_repr : mg "repr" = none
end Sn
namespace Sn
open PySem PySem.Spec PyProof.Rows L2
def d_is_word : DfM := ⟨fun K => (He.ga K "is_word"), "is_word", "is_word", s_is_word, []⟩
def d_is_name : DfM := ⟨fun K => (He.ga K "is_name"), "is_name", "is_name", s_is_name, []⟩
def d_are_different : DfM := ⟨fun K => (He.ga K "are_different"), "are_different", "are_different", s_are_different, []⟩
def d_are_names : DfM := ⟨fun K => (He.ga K "are_names"), "are_names", "are_names", s_are_names, []⟩
def d_are_pairs : DfM := ⟨fun K => (He.ga K "are_pairs"), "are_pairs", "are_pairs", s_are_pairs, []⟩
def d_is_part : DfM := ⟨fun K => (He.ga K "is_part"), "is_part", "is_part", s_is_part, []⟩
def d_is_expr : DfM := ⟨fun K => (He.ga K "is_expr"), "is_expr", "is_expr", s_is_expr, []⟩
def d_is_target : DfM := ⟨fun K => (He.ga K "is_target"), "is_target", "is_target", s_is_target, []⟩
def d_are_given : DfM := ⟨fun K => (He.ga K "are_given"), "are_given", "are_given", s_are_given, []⟩
def d_is_block : DfM := ⟨fun K => (He.ga K "is_block"), "is_block", "is_block", s_is_block, []⟩
def d_is_other : DfM := ⟨fun K => (He.ga K "is_other"), "is_other", "is_other", s_is_other, []⟩
def d_is_statement : DfM := ⟨fun K => (He.ga K "is_statement"), "is_statement", "is_statement", s_is_statement, []⟩
def d_is_item : DfM := ⟨fun K => (He.ga K "is_item"), "is_item", "is_item", s_is_item, []⟩
def d_is_tree : DfM := ⟨fun K => (He.ga K "is_tree"), "is_tree", "is_tree", s_is_tree, []⟩
def d_law_begun : DfM := ⟨fun K => (He.ga K "_law_begun"), "_law_begun", "_law_begun", s_law_begun, []⟩
def d_law_mixed : DfM := ⟨fun K => (He.ga K "_law_mixed"), "_law_mixed", "_law_mixed", s_law_mixed, []⟩
def d_law_take : DfM := ⟨fun K => (He.ga K "_law_take"), "_law_take", "_law_take", s_law_take, []⟩
def d_law_pick : DfM := ⟨fun K => (He.ga K "_law_pick"), "_law_pick", "_law_pick", s_law_pick, []⟩
def d_law_reserved : DfM := ⟨fun K => (He.ga K "_law_reserved"), "_law_reserved", "_law_reserved", s_law_reserved, []⟩
def d_law_any_word : DfM := ⟨fun K => (He.ga K "_law_any_word"), "_law_any_word", "_law_any_word", s_law_any_word, []⟩
def d_law_any_name : DfM := ⟨fun K => (He.ga K "_law_any_name"), "_law_any_name", "_law_any_name", s_law_any_name, []⟩
def d_law_names : DfM := ⟨fun K => (He.ga K "_law_names"), "_law_names", "_law_names", s_law_names, []⟩
def d_law_expr : DfM := ⟨fun K => (He.ga K "_law_expr"), "_law_expr", "_law_expr", s_law_expr, []⟩
def d_law_target : DfM := ⟨fun K => (He.ga K "_law_target"), "_law_target", "_law_target", s_law_target, []⟩
def d_law_row : DfM := ⟨fun K => (He.ga K "_law_row"), "_law_row", "_law_row", s_law_row, []⟩
def d_law_block : DfM := ⟨fun K => (He.ga K "_law_block"), "_law_block", "_law_block", s_law_block, []⟩
def d_law_item : DfM := ⟨fun K => (He.ga K "_law_item"), "_law_item", "_law_item", s_law_item, []⟩
def d_law_tree : DfM := ⟨fun K => (He.ga K "_law_tree"), "_law_tree", "_law_tree", s_law_tree, []⟩
def d_law_is_word : DfM := ⟨fun K => (He.ga K "_law_is_word"), "_law_is_word", "_law_is_word", s_law_is_word, []⟩
def d_law_is_name : DfM := ⟨fun K => (He.ga K "_law_is_name"), "_law_is_name", "_law_is_name", s_law_is_name, []⟩
def d_law_is_row : DfM := ⟨fun K => (He.ga K "_law_is_row"), "_law_is_row", "_law_is_row", s_law_is_row, []⟩
def d_law_are_names : DfM := ⟨fun K => (He.ga K "_law_are_names"), "_law_are_names", "_law_are_names", s_law_are_names, []⟩
def d_law_is_expr : DfM := ⟨fun K => (He.ga K "_law_is_expr"), "_law_is_expr", "_law_is_expr", s_law_is_expr, []⟩
def d_law_is_call : DfM := ⟨fun K => (He.ga K "_law_is_call"), "_law_is_call", "_law_is_call", s_law_is_call, []⟩
def d_law_is_statement : DfM := ⟨fun K => (He.ga K "_law_is_statement"), "_law_is_statement", "_law_is_statement", s_law_is_statement, []⟩
def d_law_is_block : DfM := ⟨fun K => (He.ga K "_law_is_block"), "_law_is_block", "_law_is_block", s_law_is_block, []⟩
def d_law_is_item : DfM := ⟨fun K => (He.ga K "_law_is_item"), "_law_is_item", "_law_is_item", s_law_is_item, []⟩
def d_law_are_pairs : DfM := ⟨fun K => (He.ga K "_law_are_pairs"), "_law_are_pairs", "_law_are_pairs", s_law_are_pairs, []⟩
def d_law_is_tree : DfM := ⟨fun K => (He.ga K "_law_is_tree"), "_law_is_tree", "_law_is_tree", s_law_is_tree, []⟩
def d_law_bent : DfM := ⟨fun K => (He.ga K "_law_bent"), "_law_bent", "_law_bent", s_law_bent, []⟩
def d_law_deep : DfM := ⟨fun K => (He.ga K "_law_deep"), "_law_deep", "_law_deep", s_law_deep, []⟩
def d_law : DfM := ⟨fun K => (He.ga K "law"), "law", "law", s_law, []⟩
def dsH : List DfM := [d_is_word, d_is_name, d_are_different, d_are_names, d_are_pairs, d_is_part, d_is_expr, d_is_target, d_are_given, d_is_block, d_is_other, d_is_statement, d_is_item, d_is_tree, d_law_begun, d_law_mixed, d_law_take, d_law_pick, d_law_reserved, d_law_any_word, d_law_any_name, d_law_names, d_law_expr, d_law_target, d_law_row, d_law_block, d_law_item, d_law_tree, d_law_is_word, d_law_is_name, d_law_is_row, d_law_are_names, d_law_is_expr, d_law_is_call, d_law_is_statement, d_law_is_block, d_law_is_item, d_law_are_pairs, d_law_is_tree, d_law_bent, d_law_deep, d_law]
def fsA : List (Fr → Bool) := [
  fun K => dfB K (He.ga K "is_word") "is_word" [],
  fun K => He.Fa.ok K (.glo "is_word"),
  fun K => dfB K (He.ga K "is_name") "is_name" [],
  fun K => He.Fa.ok K (.glo "is_name"),
  fun K => dfB K (He.ga K "are_different") "are_different" [],
  fun K => He.Fa.ok K (.glo "are_different"),
  fun K => dfB K (He.ga K "are_names") "are_names" [],
  fun K => He.Fa.ok K (.glo "are_names"),
  fun K => dfB K (He.ga K "are_pairs") "are_pairs" [],
  fun K => He.Fa.ok K (.glo "are_pairs"),
  fun K => dfB K (He.ga K "is_part") "is_part" [],
  fun K => He.Fa.ok K (.glo "is_part"),
  fun K => dfB K (He.ga K "is_expr") "is_expr" [],
  fun K => He.Fa.ok K (.glo "is_expr"),
  fun K => dfB K (He.ga K "is_target") "is_target" [],
  fun K => He.Fa.ok K (.glo "is_target"),
  fun K => dfB K (He.ga K "are_given") "are_given" [],
  fun K => He.Fa.ok K (.glo "are_given"),
  fun K => dfB K (He.ga K "is_block") "is_block" [],
  fun K => He.Fa.ok K (.glo "is_block"),
  fun K => dfB K (He.ga K "is_other") "is_other" [],
  fun K => He.Fa.ok K (.glo "is_other"),
  fun K => dfB K (He.ga K "is_statement") "is_statement" [],
  fun K => He.Fa.ok K (.glo "is_statement"),
  fun K => dfB K (He.ga K "is_item") "is_item" [],
  fun K => He.Fa.ok K (.glo "is_item"),
  fun K => dfB K (He.ga K "is_tree") "is_tree" [],
  fun K => He.Fa.ok K (.glo "is_tree"),
  fun K => dfB K (He.ga K "_law_begun") "_law_begun" [],
  fun K => He.Fa.ok K (.glo "_law_begun"),
  fun K => dfB K (He.ga K "_law_mixed") "_law_mixed" [],
  fun K => He.Fa.ok K (.glo "_law_mixed"),
  fun K => dfB K (He.ga K "_law_take") "_law_take" [],
  fun K => He.Fa.ok K (.glo "_law_take"),
  fun K => dfB K (He.ga K "_law_pick") "_law_pick" [],
  fun K => He.Fa.ok K (.glo "_law_pick"),
  fun K => dfB K (He.ga K "_law_reserved") "_law_reserved" [],
  fun K => He.Fa.ok K (.glo "_law_reserved"),
  fun K => dfB K (He.ga K "_law_any_word") "_law_any_word" [],
  fun K => He.Fa.ok K (.glo "_law_any_word"),
  fun K => dfB K (He.ga K "_law_any_name") "_law_any_name" [],
  fun K => He.Fa.ok K (.glo "_law_any_name"),
  fun K => dfB K (He.ga K "_law_names") "_law_names" [],
  fun K => He.Fa.ok K (.glo "_law_names"),
  fun K => dfB K (He.ga K "_law_expr") "_law_expr" [],
  fun K => He.Fa.ok K (.glo "_law_expr"),
  fun K => dfB K (He.ga K "_law_target") "_law_target" [],
  fun K => He.Fa.ok K (.glo "_law_target"),
  fun K => dfB K (He.ga K "_law_row") "_law_row" [],
  fun K => He.Fa.ok K (.glo "_law_row"),
  fun K => dfB K (He.ga K "_law_block") "_law_block" [],
  fun K => He.Fa.ok K (.glo "_law_block")]
def fsB : List (Fr → Bool) := [
  fun K => dfB K (He.ga K "_law_item") "_law_item" [],
  fun K => He.Fa.ok K (.glo "_law_item"),
  fun K => dfB K (He.ga K "_law_tree") "_law_tree" [],
  fun K => He.Fa.ok K (.glo "_law_tree"),
  fun K => dfB K (He.ga K "_law_is_word") "_law_is_word" [],
  fun K => He.Fa.ok K (.glo "_law_is_word"),
  fun K => dfB K (He.ga K "_law_is_name") "_law_is_name" [],
  fun K => He.Fa.ok K (.glo "_law_is_name"),
  fun K => dfB K (He.ga K "_law_is_row") "_law_is_row" [],
  fun K => He.Fa.ok K (.glo "_law_is_row"),
  fun K => dfB K (He.ga K "_law_are_names") "_law_are_names" [],
  fun K => He.Fa.ok K (.glo "_law_are_names"),
  fun K => dfB K (He.ga K "_law_is_expr") "_law_is_expr" [],
  fun K => He.Fa.ok K (.glo "_law_is_expr"),
  fun K => dfB K (He.ga K "_law_is_call") "_law_is_call" [],
  fun K => He.Fa.ok K (.glo "_law_is_call"),
  fun K => dfB K (He.ga K "_law_is_statement") "_law_is_statement" [],
  fun K => He.Fa.ok K (.glo "_law_is_statement"),
  fun K => dfB K (He.ga K "_law_is_block") "_law_is_block" [],
  fun K => He.Fa.ok K (.glo "_law_is_block"),
  fun K => dfB K (He.ga K "_law_is_item") "_law_is_item" [],
  fun K => He.Fa.ok K (.glo "_law_is_item"),
  fun K => dfB K (He.ga K "_law_are_pairs") "_law_are_pairs" [],
  fun K => He.Fa.ok K (.glo "_law_are_pairs"),
  fun K => dfB K (He.ga K "_law_is_tree") "_law_is_tree" [],
  fun K => He.Fa.ok K (.glo "_law_is_tree"),
  fun K => dfB K (He.ga K "_law_bent") "_law_bent" [],
  fun K => He.Fa.ok K (.glo "_law_bent"),
  fun K => dfB K (He.ga K "_law_deep") "_law_deep" [],
  fun K => He.Fa.ok K (.glo "_law_deep"),
  fun K => dfB K (He.ga K "law") "law" [],
  fun K => He.Fa.ok K (.glo "law"),
  fun K => He.Fa.ok K (.str "LETTERS" "abcdefghijklmnopqrstuvwxyz"),
  fun K => He.Fa.ok K (.str "SIGNS" "abcdefghijklmnopqrstuvwxyz0123456789_"),
  fun K => He.Fa.ok K (.int "MOST_SIGNS" 8),
  fun K => He.tupB K "RESERVED" [.str "as", .str "ask", .str "call", .str "def", .str "each", .str "else", .str "entry", .str "except", .str "fail", .str "if", .str "in", .str "let", .str "offer", .str "return", .str "set", .str "table", .str "there", .str "try", .str "use"],
  fun K => He.Fa.ok K (.glo "RESERVED"),
  fun K => He.Fa.ok K (.int "MOST_PARTS" 4),
  fun K => He.Fa.ok K (.int "MOST_GIVEN" 3),
  fun K => He.Fa.ok K (.int "MOST_PAIRS" 12),
  fun K => He.Fa.ok K (.int "MOST_LEVELS" 4),
  fun K => He.tupB K "BINDERS" [.str "use", .str "set", .str "table", .str "def"],
  fun K => He.Fa.ok K (.glo "BINDERS"),
  fun K => He.Fa.ok K (.free "isinstance"),
  fun K => He.Fa.ok K (.free "str"),
  fun K => He.Fa.ok K (.free "all"),
  fun K => He.Fa.ok K (.free "len"),
  fun K => He.Fa.ok K (.free "tuple"),
  fun K => He.Fa.ok K (.free "list"),
  fun K => He.Fa.ok K (.free "int"),
  fun K => He.Fa.ok K (.free "range"),
  fun K => He.Fa.ok K (.free "min"),
  fun K => He.Fa.ok K (.free "repr")]
def fsH : List (Fr → Bool) := fsA ++ fsB
def tsH : List He.Tab := []
abbrev RH : PySem.W.OpenRow := PySem.W.OpenLaw.row PySem.Challenge.rw_sparenames_k05_trees_recognized
abbrev qvH : Program := PySem.W.view RH.prog [53]
def namesH0 : List Str := [("LETTERS" : Str), ("SIGNS" : Str), ("MOST_SIGNS" : Str), ("RESERVED" : Str), ("is_word" : Str), ("is_name" : Str), ("are_different" : Str), ("are_names" : Str), ("MOST_PARTS" : Str), ("MOST_GIVEN" : Str), ("MOST_PAIRS" : Str), ("MOST_LEVELS" : Str), ("BINDERS" : Str), ("are_pairs" : Str), ("is_part" : Str), ("is_expr" : Str), ("is_target" : Str), ("are_given" : Str), ("is_block" : Str), ("is_other" : Str), ("is_statement" : Str), ("is_item" : Str), ("is_tree" : Str), ("_law_begun" : Str), ("_law_mixed" : Str), ("_law_take" : Str), ("_law_pick" : Str), ("_law_reserved" : Str), ("_law_any_word" : Str), ("_law_any_name" : Str)]
def namesH1 : List Str := [("_law_names" : Str), ("_law_expr" : Str), ("_law_target" : Str), ("_law_row" : Str), ("_law_block" : Str), ("_law_item" : Str), ("_law_tree" : Str), ("_law_is_word" : Str), ("_law_is_name" : Str), ("_law_is_row" : Str), ("_law_are_names" : Str), ("_law_is_expr" : Str), ("_law_is_call" : Str), ("_law_is_statement" : Str), ("_law_is_block" : Str), ("_law_is_item" : Str), ("_law_are_pairs" : Str), ("_law_is_tree" : Str), ("_law_bent" : Str), ("_law_deep" : Str)]
def namesH : List Str := namesH0 ++ namesH1
abbrev hkH : PySem.W.Hook := hookM 1000 fsH dsH tsH
def obH (s : PySem.W.SharedT) : AlM := obsMG 1000 fsH dsH tsH (HandSHeadRun.getT s)
theorem ob_eqH (s : PySem.W.SharedT) : obH s = hkH.obs s.abs := obsMG_eq (HandSHeadRun.getT_eq s)
theorem run_parts {α B X Y : Type} {E : Option α} {L : α → Bool} {S : α → B} {F : α → Bool} {D : α → X} {T : α → Y} {g : B} {d : X} {t : Y} (h1 : E.map (fun s => (L s, S s, D s, T s)) = some (true, g, d, t)) (h2 : E.map F = some true) : E.map (fun s => (L s, S s, F s, D s, T s)) = some (true, g, true, d, t) := by
  cases E with
  | none => cases h1
  | some s =>
    simp only [Option.map_some, Option.some.injEq, Prod.mk.injEq] at h1 h2 ⊢
    exact ⟨h1.1, h1.2.1, h2, h1.2.2⟩
theorem run_two {α β : Type} {E : Option α} {p : α → β → Bool} {A B : List β} (h1 : E.map (fun s => A.all (p s)) = some true) (h2 : E.map (fun s => B.all (p s)) = some true) : E.map (fun s => (A ++ B).all (p s)) = some true := by
  cases E with
  | none => cases h1
  | some s =>
    simp only [Option.map_some, Option.some.injEq] at h1 h2 ⊢
    rw [List.all_append, h1, h2]
    rfl
set_option maxHeartbeats 0 in
theorem runP_false (w : World) (os : OsState) : (HandSHeadRun.endF (HandSHeadRun.stepQ (HandSHeadRun.denQ HandSHeadRun.tabQ) RH.prog (w.withFollow "special-get-raises" false)) 20000 RH.prog (w.withFollow "special-get-raises" false) os).map (fun s => (HandSHeadRun.looksF RH.prog (PySem.W.boot_heap ((w.withFollow "special-get-raises" false) : World).params) s.abs, HandSHeadRun.seenQ qvH namesH (importedModules RH.prog.main.body) (fun s => PySem.W.xlAt qvH [] s && PySem.W.recOk RH.toRowW.records s) s.abs, dsH.map (fun d => fnV (He.frG (HandSHeadRun.getT s) (asM 1000)) (d.at_ (He.frG (HandSHeadRun.getT s) (asM 1000)))), tsH.map (fun t => He.dicW (He.frG (HandSHeadRun.getT s) (asM 1000)) (t.1 (He.frG (HandSHeadRun.getT s) (asM 1000)))))) = some (true, PySem.W.openGood qvH namesH, dsH.map DfM.val, tsH.map fun t => some (He.keysIn ((w.withFollow "special-get-raises" false) : World).params t.2)) := by
  kernel_rfl
set_option maxHeartbeats 0 in
theorem runA_false (w : World) (os : OsState) : (HandSHeadRun.endF (HandSHeadRun.stepQ (HandSHeadRun.denQ HandSHeadRun.tabQ) RH.prog (w.withFollow "special-get-raises" false)) 20000 RH.prog (w.withFollow "special-get-raises" false) os).map (fun s => fsA.all fun f => f (He.frG (HandSHeadRun.getT s) (asM 1000))) = some true := by
  kernel_rfl
set_option maxHeartbeats 0 in
theorem runB_false (w : World) (os : OsState) : (HandSHeadRun.endF (HandSHeadRun.stepQ (HandSHeadRun.denQ HandSHeadRun.tabQ) RH.prog (w.withFollow "special-get-raises" false)) 20000 RH.prog (w.withFollow "special-get-raises" false) os).map (fun s => fsB.all fun f => f (He.frG (HandSHeadRun.getT s) (asM 1000))) = some true := by
  kernel_rfl
theorem run_false (w : World) : HandSHeadRun.RunEq RH qvH hkH obH 20000 namesH (w.withFollow "special-get-raises" false) := by
  unfold HandSHeadRun.RunEq
  intro os
  rw [show obH = fun s => ((fsA ++ fsB).all (fun f => f (He.frG (HandSHeadRun.getT s) (asM 1000))), dsH.map (fun d => fnV (He.frG (HandSHeadRun.getT s) (asM 1000)) (d.at_ (He.frG (HandSHeadRun.getT s) (asM 1000)))), tsH.map (fun t => He.dicW (He.frG (HandSHeadRun.getT s) (asM 1000)) (t.1 (He.frG (HandSHeadRun.getT s) (asM 1000))))) from rfl, show hkH.val (w.withFollow "special-get-raises" false) = (true, dsH.map DfM.val, tsH.map fun t => some (He.keysIn ((w.withFollow "special-get-raises" false) : World).params t.2)) from rfl]
  exact run_parts (runP_false w os) (run_two (p := fun (s : PySem.W.SharedT) (f : Fr → Bool) => f (He.frG (HandSHeadRun.getT s) (asM 1000))) (runA_false w os) (runB_false w os))
set_option maxHeartbeats 0 in
theorem runP_true (w : World) (os : OsState) : (HandSHeadRun.endF (HandSHeadRun.stepQ (HandSHeadRun.denQ HandSHeadRun.tabQ) RH.prog (w.withFollow "special-get-raises" true)) 20000 RH.prog (w.withFollow "special-get-raises" true) os).map (fun s => (HandSHeadRun.looksF RH.prog (PySem.W.boot_heap ((w.withFollow "special-get-raises" true) : World).params) s.abs, HandSHeadRun.seenQ qvH namesH (importedModules RH.prog.main.body) (fun s => PySem.W.xlAt qvH [] s && PySem.W.recOk RH.toRowW.records s) s.abs, dsH.map (fun d => fnV (He.frG (HandSHeadRun.getT s) (asM 1000)) (d.at_ (He.frG (HandSHeadRun.getT s) (asM 1000)))), tsH.map (fun t => He.dicW (He.frG (HandSHeadRun.getT s) (asM 1000)) (t.1 (He.frG (HandSHeadRun.getT s) (asM 1000)))))) = some (true, PySem.W.openGood qvH namesH, dsH.map DfM.val, tsH.map fun t => some (He.keysIn ((w.withFollow "special-get-raises" true) : World).params t.2)) := by
  kernel_rfl
set_option maxHeartbeats 0 in
theorem runA_true (w : World) (os : OsState) : (HandSHeadRun.endF (HandSHeadRun.stepQ (HandSHeadRun.denQ HandSHeadRun.tabQ) RH.prog (w.withFollow "special-get-raises" true)) 20000 RH.prog (w.withFollow "special-get-raises" true) os).map (fun s => fsA.all fun f => f (He.frG (HandSHeadRun.getT s) (asM 1000))) = some true := by
  kernel_rfl
set_option maxHeartbeats 0 in
theorem runB_true (w : World) (os : OsState) : (HandSHeadRun.endF (HandSHeadRun.stepQ (HandSHeadRun.denQ HandSHeadRun.tabQ) RH.prog (w.withFollow "special-get-raises" true)) 20000 RH.prog (w.withFollow "special-get-raises" true) os).map (fun s => fsB.all fun f => f (He.frG (HandSHeadRun.getT s) (asM 1000))) = some true := by
  kernel_rfl
theorem run_true (w : World) : HandSHeadRun.RunEq RH qvH hkH obH 20000 namesH (w.withFollow "special-get-raises" true) := by
  unfold HandSHeadRun.RunEq
  intro os
  rw [show obH = fun s => ((fsA ++ fsB).all (fun f => f (He.frG (HandSHeadRun.getT s) (asM 1000))), dsH.map (fun d => fnV (He.frG (HandSHeadRun.getT s) (asM 1000)) (d.at_ (He.frG (HandSHeadRun.getT s) (asM 1000)))), tsH.map (fun t => He.dicW (He.frG (HandSHeadRun.getT s) (asM 1000)) (t.1 (He.frG (HandSHeadRun.getT s) (asM 1000))))) from rfl, show hkH.val (w.withFollow "special-get-raises" true) = (true, dsH.map DfM.val, tsH.map fun t => some (He.keysIn ((w.withFollow "special-get-raises" true) : World).params t.2)) from rfl]
  exact run_parts (runP_true w os) (run_two (p := fun (s : PySem.W.SharedT) (f : Fr → Bool) => f (He.frG (HandSHeadRun.getT s) (asM 1000))) (runA_true w os) (runB_true w os))
theorem runH (w : World) : HandSHeadRun.RunEq RH qvH hkH obH 20000 namesH w := PySem.W.byRow2 "special-get-raises" run_false run_true w
end Sn
namespace Sn
open PySem PySem.Spec PyProof.Rows L2 TL
def sgnS : Str := "abcdefghijklmnopqrstuvwxyz0123456789_"
def letS : Str := "abcdefghijklmnopqrstuvwxyz"
def resv : List Str := ["as", "ask", "call", "def", "each", "else", "entry", "except", "fail", "if", "in", "let", "offer", "return",
  "set", "table", "there", "try", "use"]
/-- a word: at most eight signs, all of them out of the alphabet -/
def isW (z : Str) : Bool := decide (z.length ≤ 8) && (tl z).all fun c => decide (c ∈ tl sgnS)
/-- its first sign is a letter -/
def fstL (z : Str) : Bool := match tl z with
  | [] => false
  | c :: _ => decide (c ∈ tl letS)
def isN (z : Str) : Bool := isW z && (fstL z && !decide (z ∈ resv))
def isP (z : Str) : Bool := decide ((Txt.split z ".").length = 2) && (Txt.split z ".").all isN
theorem inV_strs (z : Str) : ∀ l : List Str, inV (.str z) (l.map V.str) = decide (z ∈ l)
  | [] => rfl
  | x :: l => by
    show ((x == z) || inV (.str z) (l.map V.str)) = _
    rw [inV_strs z l]
    by_cases h : z = x
    · subst h; simp
    · have h2 : (x == z) = false := by simpa using fun e => h e.symm
      rw [h2, Bool.false_or]
      exact decide_eq_decide.mpr ⟨fun q => List.mem_cons.mpr (.inr q), fun q => (List.mem_cons.mp q).resolve_left h⟩
theorem flat_strs : ∀ l : List Str, (l.map V.str).all flatV = true
  | [] => rfl
  | x :: l => by
    show (true && (l.map V.str).all flatV) = true
    rw [flat_strs l]; rfl
theorem signs_map (l : List Nat) : (l.map fun c => V.str ⟨#[c]⟩) = ((l.map fun c => (⟨#[c]⟩ : Str)).map V.str) := by
  rw [List.map_map]; rfl
theorem cut1 (z : Str) : tl (cutS z none (some 1)) = (tl z).take 1 := by
  unfold cutS
  rw [show HT.sIx z.length z.length (some 1) = min 1 z.length from HT.sIx_nat _ _ 1, HT.sIx_none]
  show ((tl z).drop 0).take (min 1 z.length - 0) = _
  rw [List.drop_zero, Nat.sub_zero, len_tl, List.take_eq_take_iff]
  omega
theorem one_inj {c : Nat} {l : List Nat} : (⟨#[c]⟩ : Str) ∈ l.map (fun c => (⟨#[c]⟩ : Str)) ↔ c ∈ l := by
  constructor
  · intro h
    obtain ⟨x, hx, e⟩ := List.mem_map.mp h
    injection e with e
    have : x = c := by injection (congrArg Array.toList e)
    exact this ▸ hx
  · intro h; exact List.mem_map.mpr ⟨c, h, rfl⟩
/-- value[:1] in tuple(LETTERS) -/
theorem fst_in (z : Str) : inV (.str (cutS z none (some 1))) ((tl letS).map fun c => V.str ⟨#[c]⟩) = fstL z := by
  rw [signs_map, inV_strs]
  unfold fstL
  have h := cut1 z
  match e : tl z with
  | [] =>
    rw [e] at h
    rw [decide_eq_false_iff_not]
    intro hm
    obtain ⟨x, _, e2⟩ := List.mem_map.mp hm
    rw [← e2] at h
    cases h
  | c :: r =>
    rw [e] at h
    have e2 : cutS z none (some 1) = ⟨#[c]⟩ := ext_tl h
    rw [e2]
    exact decide_eq_decide.mpr one_inj
def sufS : List Str := ["s", "_", "1", "a"]
theorem near_ok : ∀ r ∈ resv, ∀ x ∈ sufS, isN (r ++ x) = true := by decide +kernel
theorem resv_len : ∀ r ∈ resv, r.length ≤ 6 := by decide +kernel
theorem suf_len : ∀ r ∈ sufS, r.length ≤ 1 := by decide +kernel
theorem resv_no : ∀ r ∈ resv, 95 ∉ tl r := by decide +kernel
theorem let_sgn : ∀ c ∈ tl letS, c ∈ tl sgnS := by decide +kernel
theorem und_sgn : 95 ∈ tl sgnS := by decide +kernel
theorem isN_len {z : Str} (h : isN z = true) : z.length ≤ 8 := by
  unfold isN isW at h
  simp only [Bool.and_eq_true, decide_eq_true_eq] at h
  exact h.1.1
theorem isN_res {z : Str} (h : isN z = true) : z ∉ resv := by
  unfold isN at h
  simp only [Bool.and_eq_true, Bool.not_eq_true', decide_eq_false_iff_not] at h
  exact h.2.2
theorem isN_of {z : Str} {c : Nat} {r : List Nat} (e : tl z = c :: r) (hc : c ∈ tl letS) (hr : ∀ x ∈ r, x ∈ tl sgnS) (hl : r.length ≤ 7) (hn : z ∉ resv) : isN z = true := by
  have h1 : isW z = true := by
    unfold isW
    rw [len_tl, e]
    simp only [Bool.and_eq_true, decide_eq_true_eq, List.length_cons, List.all_cons, List.all_eq_true]
    exact ⟨by omega, let_sgn c hc, hr⟩
  have h2 : fstL z = true := by
    unfold fstL
    rw [e]
    exact decide_eq_true hc
  unfold isN
  rw [h1, h2, decide_eq_false hn]; rfl
theorem cut7 (z : Str) : tl (cutS z none (some 7)) = (tl z).take 7 := by
  unfold cutS
  rw [show HT.sIx z.length z.length (some 7) = min 7 z.length from HT.sIx_nat _ _ 7, HT.sIx_none]
  show ((tl z).drop 0).take (min 7 z.length - 0) = _
  rw [List.drop_zero, Nat.sub_zero, len_tl, List.take_eq_take_iff]
  omega
theorem isN_cut {z : Str} {c : Nat} {r : List Nat} (e : tl z = c :: r) (hc : c ∈ tl letS) (hr : ∀ x ∈ r, x ∈ tl sgnS) : isN (cutS z none (some 7) ++ "_") = true := by
  have e2 : tl (cutS z none (some 7) ++ "_") = c :: (r.take 6 ++ [95]) := by
    rw [tl_append, cut7, e, show tl ("_" : Str) = [95] by decide +kernel]; rfl
  refine isN_of e2 hc (fun x hx => ?_) (by rw [List.length_append, List.length_take]; show min 6 r.length + 1 ≤ 7; omega) fun hm => ?_
  · rcases List.mem_append.mp hx with h | h
    · exact hr x (List.mem_of_mem_take h)
    · rw [List.mem_singleton.mp h]; exact und_sgn
  · exact resv_no _ hm (by rw [e2]; simp)
theorem join_signs : ∀ l : List Nat, tl (Txt.join "" (l.map fun c => (⟨#[c]⟩ : Str))) = l := by
  intro l
  rw [join_eq, tl_join, List.map_map]
  have e : tl ("" : Str) = [] := by decide +kernel
  rw [e]
  have key : ∀ l : List Nat, joinL [] (l.map (tl ∘ fun c => (⟨#[c]⟩ : Str))) = l := by
    intro l
    induction l with
    | nil => rfl
    | cons a r ih =>
      cases r with
      | nil => rfl
      | cons b r =>
        show [a] ++ ([] ++ joinL [] _) = a :: b :: r
        rw [List.nil_append]
        exact congrArg (a :: ·) ih
  exact key l
end Sn
namespace Sn
open PySem PySem.Spec PyProof.Rows L2
/-- a value of a built-in type that is met in the laws -/
inductive TyB (K : PySem.W.Frag) (H : Hp) : V → String → Prop
  | non : TyB K H .non "NoneType"
  | bl (b : Bool) : TyB K H (.bl b) "bool"
  | int (i : Int) : TyB K H (.int i) "int"
  | str (z : Str) : TyB K H (.str z) "str"
  | lst {a : Addr} {xs : List V} (h : H a = some (.lst xs)) : TyB K H (.ref a) "list"
  | tup {a : Addr} {xs : List V} (h : H a = some (.tup xs)) : TyB K H (.ref a) "tuple"
  | dK {a : Addr} {kvs : List (Key × V)} (h : H a = some (.dK kvs)) : TyB K H (.ref a) "dict"
theorem TyB.ty {K : PySem.W.Frag} {H : Hp} {v : V} {T : String} (h : TyB K H v T) : TyX K H v (.type T) := by
  cases h with
  | non => exact .base .non
  | bl b => exact .base (.bl b)
  | int i => exact .base (.int i)
  | str z => exact .base (.str z)
  | lst h => exact .base (.lst h)
  | tup h => exact .base (.tup h)
  | dK h => exact .base (.dK h)
theorem TyB.same {K : PySem.W.Frag} {H H' : Hp} {v : V} {T : String} (h : TyB K H v T) (s : Same H H') : TyB K H' v T := by
  cases h with
  | non => exact .non
  | bl b => exact .bl b
  | int i => exact .int i
  | str z => exact .str z
  | lst h => exact .lst (s _ _ h)
  | tup h => exact .tup (s _ _ h)
  | dK h => exact .dK (s _ _ h)
end Sn
namespace Sn
open PySem PySem.Spec PyProof.Rows L2
mutual
/-- the value v is the data d -/
inductive Dh (H : Hp) : V → PyData → Prop
  | non : Dh H .non .none
  | bl (b : Bool) : Dh H (.bl b) (.bool b)
  | int (i : Int) : Dh H (.int i) (.int i)
  | str (x : Str) : Dh H (.str x) (.str x)
  | lst {a : Addr} {xs : List V} {ds : List PyData} : H a = some (.lst xs) → DhAll H xs ds → Dh H (.ref a) (.list ds)
  | tup {a : Addr} {xs : List V} {ds : List PyData} : H a = some (.tup xs) → DhAll H xs ds → Dh H (.ref a) (.tuple ds)
  | dk {a : Addr} : H a = some (.dK []) → Dh H (.ref a) (.dict [])
inductive DhAll (H : Hp) : List V → List PyData → Prop
  | nil : DhAll H [] []
  | cons {v : V} {vs : List V} {d : PyData} {ds : List PyData} : Dh H v d → DhAll H vs ds → DhAll H (v :: vs) (d :: ds)
end
mutual
theorem Dh.same {H H' : Hp} (sm : Same H H') : ∀ {v : V} {d : PyData}, Dh H v d → Dh H' v d
  | _, _, .non => .non
  | _, _, .bl b => .bl b
  | _, _, .int i => .int i
  | _, _, .str x => .str x
  | _, _, .lst h a => .lst (sm _ _ h) (a.same sm)
  | _, _, .tup h a => .tup (sm _ _ h) (a.same sm)
  | _, _, .dk h => .dk (sm _ _ h)
theorem DhAll.same {H H' : Hp} (sm : Same H H') : ∀ {v : List V} {d : List PyData}, DhAll H v d → DhAll H' v d
  | _, _, .nil => .nil
  | _, _, .cons h a => .cons (h.same sm) (a.same sm)
end
theorem DhAll.len {H : Hp} : ∀ {vs : List V} {ds : List PyData}, DhAll H vs ds → vs.length = ds.length
  | _, _, .nil => rfl
  | _, _, .cons _ a => by rw [List.length_cons, List.length_cons, a.len]
theorem DhAll.get {H : Hp} : ∀ {vs : List V} {ds : List PyData}, DhAll H vs ds → ∀ {i : Nat} {v : V}, vs[i]? = some v → ∃ d, ds[i]? = some d ∧ Dh H v d
  | _, _, .nil, i, v, h => by simp at h
  | _, _, .cons h a, 0, v, e => by
    simp only [List.getElem?_cons_zero, Option.some.injEq] at e
    subst e
    exact ⟨_, rfl, h⟩
  | _, _, .cons h a, i + 1, v, e => by
    simp only [List.getElem?_cons_succ] at e ⊢
    exact a.get e
theorem DhAll.at {H : Hp} {vs : List V} {ds : List PyData} (a : DhAll H vs ds) {i : Nat} (h : i < ds.length) : ∃ v d, vs[i]? = some v ∧ ds[i]? = some d ∧ Dh H v d := by
  have h1 : i < vs.length := by rw [a.len]; exact h
  obtain ⟨d, e, q⟩ := a.get (List.getElem?_eq_getElem h1)
  exact ⟨_, d, List.getElem?_eq_getElem h1, e, q⟩
theorem DhAll.app {H : Hp} : ∀ {vs ws : List V} {ds es : List PyData}, DhAll H vs ds → DhAll H ws es → DhAll H (vs ++ ws) (ds ++ es)
  | _, _, _, _, .nil, b => b
  | _, _, _, _, .cons h a, b => .cons h (a.app b)
theorem DhAll.take {H : Hp} : ∀ {vs : List V} {ds : List PyData}, DhAll H vs ds → ∀ n, DhAll H (vs.take n) (ds.take n)
  | _, _, .nil, n => by simp; exact .nil
  | _, _, .cons h a, 0 => .nil
  | _, _, .cons h a, n + 1 => .cons h (a.take n)
theorem DhAll.drop {H : Hp} : ∀ {vs : List V} {ds : List PyData}, DhAll H vs ds → ∀ n, DhAll H (vs.drop n) (ds.drop n)
  | _, _, .nil, n => by simp; exact .nil
  | _, _, .cons h a, 0 => .cons h a
  | _, _, .cons h a, n + 1 => a.drop n
/-- the type's name -/
def dTy : PyData → String
  | .none => "NoneType"
  | .bool _ => "bool"
  | .int _ => "int"
  | .str _ => "str"
  | .list _ => "list"
  | .tuple _ => "tuple"
  | .dict _ => "dict"
theorem Dh.ty {K : PySem.W.Frag} {H : Hp} {v : V} {d : PyData} (h : Dh H v d) : TyX K H v (.type (dTy d)) := by
  cases h with
  | non => exact .base .non
  | bl b => exact .base (.bl b)
  | int i => exact .base (.int i)
  | str x => exact .base (.str x)
  | lst h a => exact .base (.lst h)
  | tup h a => exact .base (.tup h)
  | dk h => exact .base (.dK h)
def isS : PyData → Bool
  | .str _ => true
  | _ => false
def isI : PyData → Bool
  | .int _ => true
  | .bool _ => true
  | _ => false
def isB : PyData → Bool
  | .bool _ => true
  | _ => false
section
variable {X : Cx}
/-- len, the knowledge named -/
theorem call_lenN {K : PySem.W.Frag} (hK : X.K = K := by rfl) : CallR X (.builtin "len") (fun xs H Q => ∃ x n, xs = [x] ∧ LenV K x H n ∧ Q (.int n) H) := by
  subst hK
  exact call_len
end
/-- bounded data: at most n items in a row, at most k levels -/
def okD (n : Nat) : Nat → PyData → Bool
  | _, .none => true
  | _, .bool _ => true
  | _, .int i => decide (i.natAbs < 1000000)
  | _, .str s => decide (s.length ≤ 1000) && s.cps.toList.all fun c => decide (c < 128)
  | k + 1, .list ds => decide (ds.length ≤ n) && ds.all (okD n k)
  | k + 1, .tuple ds => decide (ds.length ≤ n) && ds.all (okD n k)
  | _, _ => false
/-- bounded data can be compared at any depth -/
theorem Dh.dp {K : PySem.W.Frag} {H : Hp} {n : Nat} : ∀ {k : Nat} {v : V} {d : PyData}, Dh H v d → okD n k d = true → Dp K H v d := by
  intro k
  induction k with
  | zero =>
    intro v d h ho
    cases h with
    | non => exact .non
    | bl b => exact .bl b
    | int i => exact .int i
    | str x => exact .str x
    | lst h a => simp [okD] at ho
    | tup h a => simp [okD] at ho
    | dk h => simp [okD] at ho
  | succ k ih =>
    intro v d h ho
    have key : ∀ (ds : List PyData) (vs : List V), DhAll H vs ds → (∀ x ∈ ds, okD n k x = true) → DpAll K H vs ds := by
      intro ds
      induction ds with
      | nil => intro vs a _; cases a; exact .nil
      | cons x r ihr =>
        intro vs a hx
        cases a with
        | cons h a => exact .cons (ih h (hx x (List.mem_cons.mpr (.inl rfl)))) (ihr _ a fun y hy => hx y (List.mem_cons.mpr (.inr hy)))
    cases h with
    | non => exact .non
    | bl b => exact .bl b
    | int i => exact .int i
    | str x => exact .str x
    | lst h a =>
      simp only [okD, Bool.and_eq_true, decide_eq_true_eq, List.all_eq_true] at ho
      exact .lst (.inl (.inl h)) (key _ _ a ho.2)
    | tup h a =>
      simp only [okD, Bool.and_eq_true, decide_eq_true_eq, List.all_eq_true] at ho
      exact .tup (.inl (.inl h)) (key _ _ a ho.2)
    | dk h => simp [okD] at ho
end Sn
namespace Sn
open PySem PySem.Spec PyProof.Rows L2 TL
abbrev Ps (α : Type) := List Nat → Nat → Option (α × Nat)
/-- these signs stand at i -/
def pTake (s : Str) (L : List Nat) (i : Nat) : Bool := decide ((L.drop i).take s.length = tl s)
def pSigns (L : List Nat) (i : Nat) : List Nat := (L.drop i).takeWhile fun c => decide (c ∈ tl sgnS)
def pWord : Ps Str := fun L i => if (pSigns L i).length ≤ 8 then some (⟨(pSigns L i).toArray⟩, i + (pSigns L i).length) else none
def pName : Ps Str := fun L i => (pWord L i).bind fun r => if isN r.1 = true then some r else none
/-- signs, then p -/
def pAft (s : Str) {α : Type} (p : Ps α) : Ps α := fun L i => if pTake s L i = true then p L (i + s.length) else none
/-- p, then signs -/
def pBef {α : Type} (p : Ps α) (s : Str) : Ps α := fun L i => (p L i).bind fun r => if pTake s L r.2 = true then some (r.1, r.2 + s.length) else none
def pMap {α β : Type} (f : α → β) (p : Ps α) : Ps β := fun L i => (p L i).map fun r => (f r.1, r.2)
def pQuoted (a b : Str) : Ps Str := pBef (pAft a pWord) b
def pPart : Ps PyData := fun L i => if pTake "\"" L i = true then pMap (fun w => .tuple [.str "text", .str w]) (pQuoted "\"" "\"") L i else pMap (fun w => .tuple [.str "name", .str w]) pName L i
/-- parts with ' + ' between -/
def pParts : Nat → Ps (List PyData)
  | 0 => fun _ _ => none
  | f + 1 => fun L i => (pPart L i).bind fun r => if pTake " + " L r.2 = true then (pParts f L (r.2 + 3)).map fun q => (r.1 :: q.1, q.2) else some ([r.1], r.2)
def pExpr : Ps PyData := fun L i => (pParts (L.length + 1) L i).bind fun r => if r.1.length ≤ 4 then some (.tuple r.1, r.2) else none
def pBuilt : Ps PyData := pBef (pAft "[" pExpr) "]"
def pTarget : Ps PyData := fun L i => if pTake "[" L i = true then pMap (fun e => .tuple [.str "built", e]) pBuilt L i
  else (pName L i).bind fun r => if pTake "[" L r.2 = true then pMap (fun e => .tuple [.str "table", .str r.1, e]) pBuilt L r.2 else some (.tuple [.str "name", .str r.1], r.2)
/-- items with ', ' between, up to the end -/
def pList {α : Type} (p : Ps α) (e : Str) : Nat → Bool → Ps (List α)
  | 0, _ => fun _ _ => none
  | f + 1, first => fun L i => if pTake e L i = true then some ([], i + e.length)
      else (if first = true then p L i else pAft ", " p L i).bind fun r => (pList p e f false L r.2).map fun q => (r.1 :: q.1, q.2)
def pListed {α : Type} (p : Ps α) (e : Str) : Ps (List α) := fun L i => pList p e (L.length + 1) true L i
def pCall (into : PyData) : Ps PyData := fun L i => (pTarget L i).bind fun r => (pAft "(" (pListed pExpr ")") L r.2).bind fun q => if q.1.length ≤ 3 then some (.tuple [.str "call", into, r.1, .tuple q.1], q.2) else none
def pLet : Ps PyData := fun L i => (pBef pName " = " L i).bind fun r =>
  if L.drop r.2 = tl ("ask" : Str) then some (.tuple [.str "ask", .str r.1], r.2 + 3)
  else if pTake "call " L r.2 = true then pCall (.str r.1) L (r.2 + 5) else pMap (fun e => .tuple [.str "let", .str r.1, e]) pExpr L r.2
def pChoice : Ps PyData := fun L i => if pTake "there " L i = true then pMap (fun e => .tuple [.str "there", e]) (pBef pBuilt ":") L (i + 6)
  else (pExpr L i).bind fun r => pMap (fun w => .tuple [.str "if", r.1, .str w]) (pQuoted " == \"" "\":") L r.2
def pStmt : Ps PyData := fun L i =>
  if pTake "let " L i = true then pLet L (i + 4)
  else if pTake "call " L i = true then pCall .none L (i + 5)
  else if pTake "if " L i = true then pChoice L (i + 3)
  else if pTake "each " L i = true then (pName L (i + 5)).bind fun r => pMap (fun w => .tuple [.str "each", .str r.1, .str w]) (pQuoted " in \"" "\":") L r.2
  else if pTake "return " L i = true then pMap (fun e => .tuple [.str "return", e]) pExpr L (i + 7)
  else if pTake "try:" L i = true then some (.tuple [.str "try"], i + 4)
  else if pTake "fail" L i = true then some (.tuple [.str "fail"], i + 4) else none
def pUsed : Ps PyData := fun L i => (pBef pName "." L i).bind fun r =>
  if pTake "*" L r.2 = true then some (.tuple [.str "star", .str r.1], r.2 + 1)
  else (pName L r.2).bind fun q => if pTake " as " L q.2 = true then (pName L (q.2 + 4)).bind fun t => if t.1 = q.1 then none else some (.tuple [.str "use", .str t.1, .str r.1, .str q.1], t.2)
    else some (.tuple [.str "use", .str q.1, .str r.1, .str q.1], q.2)
/-- names with a blank between -/
def pNames : Nat → Ps (List Str)
  | 0 => fun _ _ => none
  | f + 1 => fun L i => (pName L i).bind fun r => if pTake " " L r.2 = true then (pNames f L (r.2 + 1)).map fun q => (r.1 :: q.1, q.2) else some ([r.1], r.2)
def pOffered : Ps PyData := fun L i => (pNames (L.length + 1) L i).bind fun r => if r.1.length ≤ 12 ∧ r.1.Nodup then some (.tuple [.str "offer", .tuple (r.1.map PyData.str)], r.2) else none
/-- pairs, a blank ahead of each -/
def pPairs : Nat → Ps (List (Str × Str))
  | 0 => fun _ _ => none
  | f + 1 => fun L i => if pTake " " L i = true then (pBef pWord "=" L (i + 1)).bind fun r => (pName L r.2).bind fun q => (pPairs f L q.2).map fun t => ((r.1, q.1) :: t.1, t.2) else some ([], i)
def pKeyed : Ps PyData := fun L i => (pBef pName ":" L i).bind fun r => (pPairs (L.length + 1) L r.2).bind fun q =>
  if 1 ≤ q.1.length ∧ q.1.length ≤ 12 ∧ (∀ x ∈ q.1, x.1 ≠ "") ∧ (q.1.map (·.1)).Nodup then some (.tuple [.str "table", .str r.1, .tuple (q.1.map fun x => .tuple [.str x.1, .str x.2])], q.2) else none
def pDefined : Ps PyData := fun L i => (pName L i).bind fun r => (pAft "(" (pListed pName "):") L r.2).bind fun q =>
  if q.1.length ≤ 3 ∧ q.1.Nodup then some (.tuple [.str "def", .str r.1, .tuple (q.1.map PyData.str)], q.2) else none
def pItem : Ps PyData := fun L i =>
  if pTake "use " L i = true then pUsed L (i + 4)
  else if pTake "offer " L i = true then pOffered L (i + 6)
  else if pTake "table " L i = true then pKeyed L (i + 6)
  else if pTake "def " L i = true then pDefined L (i + 4)
  else if pTake "entry " L i = true then pMap (fun w => .tuple [.str "entry", .str w]) pName L (i + 6)
  else if pTake "set " L i = true then (pName L (i + 4)).bind fun r => pMap (fun w => .tuple [.str "set", .str r.1, .str w]) (pQuoted " = \"" "\"") L r.2
  else none
end Sn
namespace Sn
open PySem PySem.Spec PyProof.Rows L2 TL
/-- a line that opens a block: its word, what follows the word, the first block where there is a second one, the rows so far -/
structure PF where
  word : Str
  rest : List PyData
  pre : Option (List PyData)
  cur : List PyData
/-- what the reader holds; the frames: the deepest first -/
structure PR where
  kept : List PyData
  bound : List Str
  frames : List PF
def binders : List Str := ["use", "set", "table", "def"]
def openers : List Str := ["def", "if", "there", "each", "try"]
/-- the line of the second block -/
def second (w : Str) : Option Str := if w = "if" ∨ w = "there" then some "else:" else if w = "try" then some "except:" else none
def PF.data (f : PF) : PyData := .tuple (.str f.word :: f.rest)
def PF.complete (f : PF) : Bool := !f.cur.isEmpty && (decide (f.word ≠ "try") || f.pre.isSome)
def PF.blocks (f : PF) : List (List PyData) := f.pre.toList ++ [f.cur]
def PF.more (f : PF) : Bool := (decide (f.word = "if") || decide (f.word = "there")) && !f.pre.isSome
def PF.wholes (f : PF) : List (List PyData) := f.blocks ++ if f.more = true then [[]] else []
def PF.whole (f : PF) : PyData := .tuple (.str f.word :: (f.rest ++ f.wholes.map PyData.tuple))
def PF.goes (f : PF) (z : Str) : Bool := !f.pre.isSome && !f.cur.isEmpty && decide (second f.word = some z)
def PR.keep (R : PR) (d : PyData) : PR := match R.frames with
  | [] => { R with kept := R.kept ++ [d] }
  | f :: fs => { R with frames := { f with cur := f.cur ++ [d] } :: fs }
/-- the frames above a level ended -/
def PR.shutN (lv : Nat) : Nat → PR → Option PR
  | 0, R => some R
  | n + 1, R => if R.frames.length ≤ lv then some R else match R.frames with
    | [] => some R
    | f :: fs => if f.complete = true then ({ R with frames := fs } : PR).keep f.whole |>.shutN lv n else none
def PR.shut (R : PR) (lv : Nat) : Option PR := R.shutN lv R.frames.length
def PR.second (R : PR) (z : Str) : Option PR := match R.frames with
  | [] => none
  | f :: fs => if f.goes z = true then some { R with frames := { f with pre := some f.cur, cur := [] } :: fs } else none
def PR.goOn (R : PR) (z : Str) (lv : Nat) : Option PR := if R.frames.length ≤ lv then none else (R.shut (lv + 1)).bind fun R' => R'.second z
/-- a head: its word, what follows -/
def hdW : PyData → Str
  | .tuple (.str w :: _) => w
  | _ => ""
def hdR : PyData → List PyData
  | .tuple (_ :: r) => r
  | _ => []
def hdN : PyData → Str
  | .tuple (_ :: .str n :: _) => n
  | _ => ""
def PR.bind (R : PR) (d : PyData) : Option PR := if hdW d ∈ binders then (if hdN d ∈ R.bound then none else some { R with bound := R.bound ++ [hdN d] }) else some R
def PR.put (R : PR) (d : PyData) (lv : Nat) : Option PR := if hdW d ∉ openers then some (R.keep d) else if 4 ≤ lv then none else some { R with frames := ⟨hdW d, hdR d, none, []⟩ :: R.frames }
def PR.takeHead (R : PR) (d : PyData) (lv : Nat) : Option PR := (R.bind d).bind fun R' => R'.put d lv
/-- the line without its blanks in front -/
def strip (z : Str) : Str := ⟨((tl z).dropWhile fun c => decide (c = 32)).toArray⟩
def PR.line (R : PR) (s : Str) (lv : Nat) : Option PR := if s = "else:" ∨ s = "except:" then R.goOn s lv
  else match (if lv = 0 then pItem else pStmt) (tl s) 0 with
    | none => none
    | some (d, j) => if (tl s).drop j ≠ [] then none else (R.shut lv).bind fun R' => R'.takeHead d lv
def PR.take (R : PR) (z : Str) : Option PR := if (z.length - (strip z).length) % 4 ≠ 0 ∨ R.frames.length < (z.length - (strip z).length) / 4 then none else R.line (strip z) ((z.length - (strip z).length) / 4)
/-- the lines from the n-th on: what is read, or the number of the wrong one -/
def readL : Nat → PR → List Str → Except Nat PR
  | _, R, [] => .ok R
  | n, R, z :: zs => if z = "" then readL (n + 1) R zs else match R.take z with
    | none => .error (n + 1)
    | some R' => readL (n + 1) R' zs
/-- how much is held -/
def PF.size (f : PF) : Nat := (f.pre.getD []).length + f.cur.length + 1
def PR.size (R : PR) : Nat := R.kept.length + (R.frames.map PF.size).sum
theorem keep_size (R : PR) (d : PyData) : (R.keep d).size = R.size + 1 ∧ (R.keep d).bound = R.bound ∧ (R.keep d).frames.length = R.frames.length := by
  unfold PR.keep
  split
  · rename_i h
    refine ⟨?_, rfl, rfl⟩
    simp only [PR.size, h]
    simp
  · rename_i f fs h
    refine ⟨?_, rfl, by rw [h]; rfl⟩
    simp only [PR.size, h]
    simp [PF.size]
    omega
end Sn
namespace Sn
open PySem PySem.Spec PyProof.Rows L2 TL
/-- r stands from i on -/
def At (L : List Nat) (i : Nat) (r : List Nat) : Prop := L.drop i = r
theorem At.zero (L : List Nat) : At L 0 L := rfl
theorem At.go {L : List Nat} {i : Nat} {a r : List Nat} (h : At L i (a ++ r)) : At L (i + a.length) r := by
  unfold At at h ⊢
  rw [← List.drop_drop, h, List.drop_left]
theorem At.len {L : List Nat} {i : Nat} (h : At L i []) (hi : i ≤ L.length) : i = L.length := by
  unfold At at h
  have := congrArg List.length h
  rw [List.length_drop] at this
  have e : ([] : List Nat).length = 0 := rfl
  omega
theorem At.pos {L : List Nat} {i c : Nat} {r : List Nat} (h : At L i (c :: r)) : i < L.length := by
  unfold At at h
  have := congrArg List.length h
  rw [List.length_drop, List.length_cons] at this
  omega
theorem tk {L : List Nat} {i : Nat} {s : Str} {r : List Nat} (h : At L i (tl s ++ r)) : pTake s L i = true := by
  unfold pTake
  rw [show L.drop i = _ from h, len_tl, List.take_left]
  exact decide_eq_true rfl
/-- all are signs -/
def Sg (a : Str) : Prop := ∀ c ∈ tl a, c ∈ tl sgnS
/-- the next one is no sign -/
def Stp (r : List Nat) : Prop := ∀ c, r.head? = some c → c ∉ tl sgnS
/-- a word that is not empty, perhaps too long -/
def Wd (a : Str) : Prop := Sg a ∧ tl a ≠ []
theorem Stp.nil : Stp [] := fun c h => nomatch h
theorem takeW {a r : List Nat} {p : Nat → Bool} (h : ∀ c ∈ a, p c = true) (n : ∀ c, r.head? = some c → p c = false) : (a ++ r).takeWhile p = a := by
  induction a with
  | nil =>
    cases r with
    | nil => rfl
    | cons x r => rw [List.nil_append, List.takeWhile_cons_of_neg (by rw [n x rfl]; decide)]
  | cons x a ih => rw [List.cons_append, List.takeWhile_cons_of_pos (h x (by simp)), ih fun c hc => h c (by simp [hc])]
theorem str_eta (a : Str) : (⟨(tl a).toArray⟩ : Str) = a := by
  obtain ⟨⟨l⟩⟩ := a
  rfl
section
variable {L : List Nat} {i : Nat} {a b : Str} {r : List Nat}
theorem at_signs (h : At L i (tl a ++ r)) (hs : Sg a) (st : Stp r) : pSigns L i = tl a := by
  unfold pSigns
  rw [show L.drop i = _ from h]
  exact takeW (fun c hc => decide_eq_true (hs c hc)) fun c hc => decide_eq_false (st c hc)
theorem at_word (h : At L i (tl a ++ r)) (hs : Sg a) (st : Stp r) : pWord L i = if a.length ≤ 8 then some (a, i + a.length) else none := by
  unfold pWord
  rw [at_signs h hs st, ← len_tl, str_eta]
theorem isN_len' (h : isN a = true) : a.length ≤ 8 := by
  unfold isN isW at h
  simp only [Bool.and_eq_true, decide_eq_true_eq] at h
  exact h.1.1
theorem at_name (h : At L i (tl a ++ r)) (hs : Sg a) (st : Stp r) : pName L i = if isN a = true then some (a, i + a.length) else none := by
  unfold pName
  rw [at_word h hs st]
  by_cases h8 : a.length ≤ 8
  · rw [if_pos h8]; rfl
  · rw [if_neg h8, if_neg (fun q => h8 (isN_len' q))]; rfl
end
end Sn
namespace Sn
open PySem PySem.Spec PyProof.Rows L2 TL
theorem ne_emp' {z : Str} (h : tl z ≠ []) : z ≠ "" := fun e => h (by rw [e]; decide +kernel)
theorem readL_cons {n : Nat} {R : PR} {z : Str} {zs : List Str} (h : tl z ≠ []) : readL n R (z :: zs) = match R.take z with | none => .error (n + 1) | some R' => readL (n + 1) R' zs := by
  show (if z = "" then _ else _) = _
  rw [if_neg (ne_emp' h)]
  try (cases R.take z <;> rfl)
def R0 : PR := ⟨[], [], []⟩
theorem readL_bad {n : Nat} {R : PR} {z : Str} {zs : List Str} (hz : tl z ≠ []) (h : R.take z = none) : readL n R (z :: zs) = .error (n + 1) := by
  rw [readL_cons hz, h]
theorem readL_good {n : Nat} {R R' : PR} {z : Str} {zs : List Str} (hz : tl z ≠ []) (h : R.take z = some R') : readL n R (z :: zs) = readL (n + 1) R' zs := by
  rw [readL_cons hz, h]
theorem readL_skip {n : Nat} {R : PR} {zs : List Str} : readL n R ("" :: zs) = readL (n + 1) R zs := by
  show (if ("" : Str) = "" then _ else _) = _
  rw [if_pos rfl]
theorem shut_le {R : PR} {lv : Nat} (h : R.frames.length ≤ lv) : R.shut lv = some R := by
  unfold PR.shut
  cases e : R.frames.length with
  | zero => rfl
  | succ n =>
    unfold PR.shutN
    rw [if_pos h]
end Sn
namespace Sn
open PySem PySem.Spec PyProof.Rows L2
/-- the state's dict -/
def drK (g c : Addr) (l t : Int) : List (Key × V) :=
  [(Sum.inr "great", .ref g), (Sum.inr "cells", .ref c), (Sum.inr "left", .int l), (Sum.inr "turn", .int t)]
/-- the drawing state stands at d, its two lists at g and c; at most m numbers were mixed so far -/
structure Dr (H : Hp) (d g c : Addr) (m : Nat) : Prop where
  di : ∃ l t : Int, 0 ≤ t ∧ t ≤ m ∧ H d = some (.dK (drK g c l t))
  gr : ∃ ns : List Int, H g = some (.lst (ns.map V.int))
  ce : ∃ ns : List Int, H c = some (.lst (ns.map V.int))
  gc : g ≠ c
theorem Dr.mono {H : Hp} {d g c : Addr} {m n : Nat} (D : Dr H d g c m) (h : m ≤ n) : Dr H d g c n := by
  obtain ⟨l, t, h0, h1, h2⟩ := D.di
  exact ⟨⟨l, t, h0, by omega, h2⟩, D.gr, D.ce, D.gc⟩
/-- all that was tracked stands, but the state's dict and its first list -/
def Mv (d g : Addr) (H H' : Hp) : Prop := ∀ b o, b ≠ d → b ≠ g → H b = some o → H' b = some o
theorem Mv.refl (d g : Addr) (H : Hp) : Mv d g H H := fun _ _ _ _ e => e
theorem Mv.trans {d g : Addr} {H H1 H2 : Hp} (a : Mv d g H H1) (b : Mv d g H1 H2) : Mv d g H H2 :=
  fun x o h1 h2 e => b x o h1 h2 (a x o h1 h2 e)
theorem Mv.same {d g : Addr} {H H1 : Hp} (a : Same H H1) : Mv d g H H1 := fun x o _ _ e => a x o e
theorem Mv.upd {d g : Addr} {H : Hp} {o : HO} : Mv d g H (upd H d o) := fun b x h1 _ e => by rw [upd_ne h1]; exact e
theorem same_new {H : Hp} {p : Addr} {o : HO} (h : H p = none) : Same H (upd H p o) := fun b x e => by
  rw [upd_ne (ne_of_none e h)]
  exact e
/-- the state stays where all that is tracked stays -/
theorem Dr.same {H H' : Hp} {d g c : Addr} {m : Nat} (D : Dr H d g c m) (s : Same H H') : Dr H' d g c m := by
  obtain ⟨⟨l, t, h0, h1, h2⟩, ⟨a, h3⟩, ⟨b, h4⟩, h5⟩ := D
  exact ⟨⟨l, t, h0, h1, s _ _ h2⟩, ⟨a, s _ _ h3⟩, ⟨b, s _ _ h4⟩, h5⟩
theorem get_great (g c : Addr) (l t : Int) : valV (drK g c l t) (Sum.inr "great" : Key) = some (.ref g) := by kernel_rfl
theorem get_cells (g c : Addr) (l t : Int) : valV (drK g c l t) (Sum.inr "cells" : Key) = some (.ref c) := by kernel_rfl
theorem get_left (g c : Addr) (l t : Int) : valV (drK g c l t) (Sum.inr "left" : Key) = some (.int l) := by kernel_rfl
theorem get_turn (g c : Addr) (l t : Int) : valV (drK g c l t) (Sum.inr "turn" : Key) = some (.int t) := by kernel_rfl
theorem put_left (g c : Addr) (l t x : Int) : putK (drK g c l t) (Sum.inr "left" : Key) (.int x) = drK g c x t := by kernel_rfl
theorem put_turn (g c : Addr) (l t x : Int) : putK (drK g c l t) (Sum.inr "turn" : Key) (.int x) = drK g c l x := by kernel_rfl
theorem dget_of {H : Hp} {d : Addr} {kvs : List (Key × V)} {x : Str} {v : V} (h : H d = some (.dK kvs)) (e : valV kvs (Sum.inr x : Key) = some v) :
    DGet H d (.str x) (some v) := .inl ⟨kvs, Sum.inr x, .inl h, rfl, e.symm⟩
theorem dput_of {H : Hp} {d : Addr} {kvs kvs' : List (Key × V)} {x : Str} {v : V} (h : H d = some (.dK kvs)) (hl : kvs.length ≤ 1000) (e : putK kvs (Sum.inr x : Key) v = kvs') :
    DPut H d (.str x) v (upd H d (.dK kvs')) := .inl ⟨kvs, Sum.inr x, h, rfl, small1000 hl, by rw [e]⟩
theorem dp_ints {K : PySem.W.Frag} {H : Hp} : ∀ ns : List Int, DpAll K H (ns.map V.int) (ns.map PyData.int)
  | [] => .nil
  | n :: r => .cons (.int n) (dp_ints r)
theorem ix0 (x : Int) (r : List Int) : seqIndex? 0 ((x :: r).map V.int).length = some 0 := by
  rw [List.map_cons, List.length_cons]
  simp [seqIndex?]
theorem small4 (g c : Addr) (l t : Int) : (drK g c l t).length ≤ 1000 := by show 4 ≤ 1000; decide
def primes : List Int := [2147483629, 2147483587, 2147483579, 2147483563, 2147483549, 2147483543]
theorem primes_lo : ∀ q ∈ primes, 2147483543 ≤ q := by decide
theorem primes_hi : ∀ q ∈ primes, q ≤ 2147483629 := by decide
section
variable {P : Program} {w : World} {K : PySem.W.Frag} {mg : Str → Option Value} {base : Heap}
/-- _law_mixed: some number; one more was mixed -/
def spMixed : Sp := fun vs H Q _ => ∃ (d g c : Addr) (m : Nat), vs = [.ref d] ∧ Dr H d g c m ∧ m ≤ 1000000000 ∧
  ∀ (r : Int) (H' : Hp), Dr H' d g c (m + 1) → H' g = H g → Mv d g H H' → Q (.int r) H'
theorem ok_mixed (T : Txt K mg) : FnOk P w K mg base CX0 1 T.f_law_mixed T.fd_law_mixed ["_law_state"] spMixed := by
  refine T.F_law_mixed.ok sc_law_mixed (fun vs H Q E h => ?_) (fun cdv A outer s H vs Q E hr h => ?_)
  · obtain ⟨d, g, c, m, rfl, _⟩ := h
    rfl
  · obtain ⟨d, g, c, m, rfl, D, hm, k⟩ := h
    have hu := hu_of hr
    refine ⟨_, pss_cons (ps_dput hu (pv 0) pe_str (pe_op op_add (pe_dget hu (pv 0) pe_str (fun _ _ => rfl)) pe_int) rfl)
      (pss_cons (ps_set (i := 1) sc_law_mixed.nd rfl (Or.inl rfl) pe_int)
      (pss_cons (ps_for PassesOwn.never rfl (pi_list (pe_lst (pa_cons pe_int (pa_cons pe_int (pa_cons pe_int (pa_cons pe_int (pa_cons pe_int (pa_cons pe_int pa_nil)))))))) (pg_name (i := 2) sc_law_mixed.nd rfl (Or.inl rfl))
        (pss_cons (ps_set (i := 3) sc_law_mixed.nd rfl (Or.inl rfl) (pe_op op_add (pe_op op_mul pe_int (pe_dget hu (pv 0) pe_str (fun _ _ => rfl))) (pe_op op_fdivN (pv 2) pe_int)))
        (pss_cons (ps_for PassesOwn.never rfl (pi_list (pe_dget hu (pv 0) pe_str (fun _ _ => rfl))) (pg_name (i := 4) sc_law_mixed.nd rfl (Or.inl rfl))
          (pss_one (ps_set (i := 3) sc_law_mixed.nd rfl (Or.inl rfl) (pe_op op_modN (pe_callTy call_int1 (by rfl) T.z_int (by decide +kernel) (pa_cons (pe_op op_add (pe_op op_mul (pv 3) pe_int) (pv 4)) pa_nil)) (pv 2)))))
        (pss_one (ps_set (i := 1) sc_law_mixed.nd rfl (Or.inl rfl) (pe_op op_add (pe_op op_mul (pv 1) pe_int) (pe_op op_modN (pe_callTy call_int1 (by rfl) T.z_int (by decide +kernel) (pa_cons (pe_op op_pow (pv 3) pe_int) pa_nil)) (pv 2))))))))
      (pss_one (ps_ret (pv 1))))), ?_⟩
    obtain ⟨⟨l, t, h0, h1, hd⟩, ⟨gs, hg⟩, ⟨cs, hc⟩, hgc⟩ := id D
    refine ⟨_, rfl, d, _, rfl, dget_of hd (get_turn g c l t), _, _, rfl, rfl, _, rfl, d, _, rfl, dput_of hd (small4 g c l t) (put_turn g c l t _), ?_⟩
    refine ⟨(by show 6 ≤ sizeLine; decide), fun p hp => ?_⟩
    have npd : p ≠ d := fun e => by rw [e, upd_same] at hp; cases hp
    have hp0 : H p = none := by rw [upd_ne npd] at hp; exact hp
    have ncd : c ≠ d := fun e => by rw [e, hd] at hc; cases hc
    have ngd : g ≠ d := fun e => by rw [e, hd] at hg; cases hg
    generalize eH2 : upd (upd H d (.dK (drK g c l (t + 1)))) p (.lst [.int 2147483629, .int 2147483587, .int 2147483579, .int 2147483563, .int 2147483549, .int 2147483543]) = H2
    have fd : H2 d = some (.dK (drK g c l (t + 1))) := by rw [← eH2, upd_ne npd.symm, upd_same]
    have fc : H2 c = some (.lst (cs.map V.int)) := by rw [← eH2, upd_ne (ne_of_none hc hp0), upd_ne ncd]; exact hc
    have fg : H2 g = some (.lst (gs.map V.int)) := by rw [← eH2, upd_ne (ne_of_none hg hp0), upd_ne ngd]; exact hg
    have fp : H2 p = some (.lst (primes.map V.int)) := by rw [← eH2, upd_same]; rfl
    refine ⟨p, rfl, ⟨_, .inl (.inl fp)⟩, for_list (K := K) (a := p) (xs := primes.map V.int)
      (fun i σ H3 => ∃ (v2 v3 v4 : Option V) (f : Int), H2 = H3 ∧ σ = [some (.ref d), some (.int f), v2, v3, v4]) ⟨none, none, none, 0, rfl, rfl⟩ (fun i σ H3 _ ⟨_, _, _, _, e, _⟩ => by rw [← e]; exact .inl (.inl fp)) ?_ ?_⟩
    · rintro i y σ H3 hi ⟨v2, v3, v4, f, rfl, rfl⟩
      obtain ⟨q, rfl, q1, q2⟩ : ∃ q : Int, y = .int q ∧ 2147483543 ≤ q ∧ q ≤ 2147483629 := by
        have hm : y ∈ primes.map V.int := List.mem_of_getElem? hi
        obtain ⟨q, hq, rfl⟩ := List.mem_map.mp hm
        exact ⟨q, rfl, primes_lo q hq, primes_hi q hq⟩
      -- blend = 69997 * turn + prime // 11
      refine ⟨_, rfl, d, _, rfl, dget_of fd (get_turn g c l (t + 1)), _, _, rfl, rfl, .inl ⟨by decide, by decide⟩, _, rfl, _, _, rfl, rfl, ⟨by decide, by decide⟩, _, _, rfl, rfl, ?_⟩
      have b0 : 0 ≤ 69997 * (t + 1) + Int.fdiv q 11 ∧ 69997 * (t + 1) + Int.fdiv q 11 < 9223372036854775808 := by
        rw [Int.fdiv_eq_ediv_of_nonneg _ (by decide)]
        omega
      -- for cell in state["cells"]
      refine ⟨_, rfl, d, _, rfl, dget_of fd (get_cells g c l (t + 1)), c, rfl, ⟨_, .inl (.inl fc)⟩, for_list (K := K) (a := c) (xs := cs.map V.int)
        (fun i σ H3 => ∃ (v4 : Option V) (b : Int), H2 = H3 ∧ (0 ≤ b ∧ b < 9223372036854775808) ∧ σ = [some (.ref d), some (.int f), some (.int q), some (.int b), v4]) ⟨v4, _, rfl, b0, rfl⟩
        (fun i σ H3 _ ⟨_, _, e, _, _⟩ => by rw [← e]; exact .inl (.inl fc)) ?_ ?_⟩
      · rintro j x σ H3 hj ⟨v4, b, rfl, hb, rfl⟩
        obtain ⟨z, hz, rfl⟩ := List.mem_map.mp (List.mem_of_getElem? hj)
        refine ⟨_, rfl, _, _, rfl, rfl, .inr ⟨by decide, by decide⟩, _, rfl, _, _, rfl, rfl, .inl ⟨_, rfl, _, rfl, _, _, rfl, rfl, (by omega), ?_⟩⟩
        refine ⟨_, _, rfl, ?_, rfl⟩
        rw [Int.fmod_eq_emod_of_nonneg _ (by omega)]
        have e1 := Int.emod_nonneg (b * 48271 + z) (b := q) (by omega)
        have e2 := Int.emod_lt_of_pos (b * 48271 + z) (b := q) (by omega)
        omega
      · rintro σ H3 ⟨v4, b, rfl, hb, rfl⟩
        refine ⟨_, rfl, _, _, rfl, rfl, .inr ⟨by decide, by decide⟩, _, rfl, _, _, rfl, rfl, ⟨by decide, by decide, by omega⟩, .inl ⟨_, rfl, _, rfl, _, _, rfl, rfl, (by omega), _, _, rfl, rfl, ?_⟩⟩
        exact ⟨_, _, _, _, rfl, rfl⟩
    · rintro σ H3 ⟨v2, v3, v4, f, rfl, rfl⟩
      refine ⟨_, rfl, k f _ ⟨⟨l, t + 1, by omega, by omega, fd⟩, ⟨gs, fg⟩, ⟨cs, fc⟩, hgc⟩ (fg.trans hg.symm) fun b o h1 h2 e => ?_⟩
      rw [← eH2, upd_ne (ne_of_none e hp0), upd_ne h1]
      exact e
/-- _law_take: some number from 0 to size - 1 -/
def spTake : Sp := fun vs H Q _ => ∃ (d g c : Addr) (m : Nat) (n : Int), vs = [.ref d, .int n] ∧ Dr H d g c m ∧ m ≤ 1000000000 ∧ 0 < n ∧ n < 1000000000 ∧
  ∀ (r : Int) (H' : Hp), 0 ≤ r → r < n → Dr H' d g c (m + 1) → Mv d g H H' → Q (.int r) H'
theorem ok_take (T : Txt K mg) : FnOk P w K mg base CX0 2 T.f_law_take T.fd_law_take ["_law_state", "_law_size"] spTake := by
  have GM : FnOk P w K mg base CX0 1 T.f_law_mixed T.fd_law_mixed ["_law_state"] spMixed := ok_mixed T
  refine T.F_law_take.ok sc_law_take (fun vs H Q E h => ?_) (fun cdv A outer s H vs Q E hr h => ?_)
  · obtain ⟨d, g, c, m, n, rfl, _⟩ := h
    rfl
  · obtain ⟨d, g, c, m, n, rfl, D, hm, n0, n1, k⟩ := h
    have hu := hu_of hr
    refine ⟨_, pss_cons (ps_if (pt_cmpR op_eq (pe_dget hu (pv 0) pe_str (fun _ _ => rfl)) pe_int (nomark _))
        (pss_one (ps_dput hu (pv 0) pe_str (pe_ifExp (pt_cmpR (op_neD hr.units) (pe_dget hu (pv 0) pe_str (fun _ _ => rfl)) (pe_lst pa_nil) (nomark _))
          (pe_bm PySem.F.plainAttrs_list PySem.F.slot_list_pop PySem.F.type_list_pop mt_popAt (pe_dget hu (pv 0) pe_str (fun _ _ => rfl)) (pa_cons pe_int pa_nil))
          (pe_call GM hr rfl T.g_law_mixed T.F_law_mixed.kp T.b_law_mixed .nil pass0 (pa_cons (pv 0) pa_nil))) rfl)) pss_nil)
      (pss_cons (ps_set (i := 2) sc_law_take.nd rfl (Or.inl rfl) (pe_op op_modN (pe_callTy call_int1 (by rfl) T.z_int (by decide +kernel) (pa_cons (pe_dget hu (pv 0) pe_str (fun _ _ => rfl)) pa_nil)) (pv 1)))
      (pss_cons (ps_dput hu (pv 0) pe_str (pe_op op_fdivN (pe_dget hu (pv 0) pe_str (fun _ _ => rfl)) (pv 1)) rfl)
      (pss_one (ps_ret (pv 2))))), ?_⟩
    obtain ⟨⟨l, t, h0, h1, hd⟩, ⟨gs, hg⟩, ⟨cs, hc⟩, hgc⟩ := id D
    have ngd : g ≠ d := fun e => by rw [e, hd] at hg; cases hg
    have ncd : c ≠ d := fun e => by rw [e, hd] at hc; cases hc
    refine ⟨_, rfl, d, _, rfl, dget_of hd (get_left g c l t), rfl, _, rfl, ?_⟩
    have tail : ∀ (x y : Int) (H1 : Hp), 0 ≤ y → y ≤ m + 1 → H1 d = some (.dK (drK g c x y)) → (∃ ns : List Int, H1 g = some (.lst (ns.map V.int))) → H1 c = some (.lst (cs.map V.int)) → Mv d g H H1 →
        (0 ≤ Int.fmod x n ∧ Int.fmod x n < n) ∧ Q (.int (Int.fmod x n)) (upd H1 d (.dK (drK g c (Int.fdiv x n) y))) := by
      intro x y H1 y0 y1 e1 e2 e3 mv
      have r0 : 0 ≤ Int.fmod x n ∧ Int.fmod x n < n := by
        rw [Int.fmod_eq_emod_of_nonneg _ (by omega)]
        exact ⟨Int.emod_nonneg _ (by omega), Int.emod_lt_of_pos _ n0⟩
      obtain ⟨ns, e2⟩ := e2
      refine ⟨r0, k _ _ r0.1 r0.2 ⟨⟨_, y, y0, by omega, upd_same⟩, ⟨ns, by rw [upd_ne ngd]; exact e2⟩, ⟨cs, by rw [upd_ne ncd]; exact e3⟩, hgc⟩ (mv.trans Mv.upd)⟩
    refine ite2 (fun _ => ?_) (fun _ => ?_)
    · refine ⟨_, rfl, d, _, rfl, dget_of hd (get_great g c l t), (by show 0 ≤ sizeLine; decide), fun p hp => ?_⟩
      have sp1 : Same H (upd H p (.lst [])) := same_new hp
      refine ⟨_, _, .lst (.inl (.inl (sp1 _ _ hg))) (dp_ints gs), .lst (.inl (.inl upd_same)) .nil, PySem.W.ke_shaped_ints gs, by decide, _, rfl, ?_⟩
      match gs, hg with
      | [], hg =>
        refine iteF ?_
        refine ⟨_, rfl, d, g, c, m, rfl, D.same sp1, hm, fun r H1 D1 eg mv => ?_⟩
        obtain ⟨⟨l1, t1, g0, g1, hd1⟩, ⟨gs1, hg1⟩, ⟨cs1, hc1⟩, _⟩ := id D1
        refine ⟨_, rfl, d, _, rfl, dput_of hd1 (small4 g c l1 t1) (put_left g c l1 t1 r), ?_⟩
        have hc2 : H1 c = some (.lst (cs.map V.int)) := mv c _ ncd hgc.symm (sp1 _ _ hc)
        obtain ⟨r0, z⟩ := tail r t1 (upd H1 d (.dK (drK g c r t1))) g0 (by omega) upd_same ⟨gs1, by rw [upd_ne ngd]; exact hg1⟩ (by rw [upd_ne ncd]; exact hc2) (((Mv.same sp1).trans mv).trans Mv.upd)
        refine ⟨_, rfl, d, _, rfl, dget_of upd_same (get_left g c r t1), .inl ⟨_, rfl, _, rfl, _, _, rfl, rfl, (by omega), ?_⟩⟩
        exact ⟨_, rfl, d, _, rfl, dget_of upd_same (get_left g c r t1), _, rfl, _, _, rfl, rfl, ⟨by omega, by omega⟩, _, rfl, d, _, rfl, dput_of upd_same (small4 g c r t1) (put_left g c r t1 _), _, rfl, z⟩
      | x :: gs, hg =>
        refine iteT ?_
        refine ⟨_, rfl, d, _, rfl, dget_of (sp1 _ _ hd) (get_great g c l t), .inl ⟨rfl, _, .inl (.inl (sp1 _ _ hg))⟩, g, _, 0, 0, _, rfl, rfl, sp1 _ _ hg, by decide, by decide, ix0 _ _, rfl, ?_⟩
        have hd1 : (upd (upd H p (.lst [])) g (.lst (((x :: gs).map V.int).eraseIdx 0))) d = some (.dK (drK g c l t)) := by rw [upd_ne ngd.symm]; exact sp1 _ _ hd
        refine ⟨_, rfl, d, _, rfl, dput_of hd1 (small4 g c l t) (put_left g c l t x), ?_⟩
        obtain ⟨r0, z⟩ := tail x t (upd (upd (upd H p (.lst [])) g (.lst (((x :: gs).map V.int).eraseIdx 0))) d (.dK (drK g c x t))) h0 (by omega) upd_same ⟨gs, by rw [upd_ne ngd, upd_same]; rfl⟩ (by rw [upd_ne ncd, upd_ne hgc.symm]; exact sp1 _ _ hc) (fun b o b1 b2 e => by rw [upd_ne b1, upd_ne b2]; exact sp1 _ _ e)
        refine ⟨_, rfl, d, _, rfl, dget_of upd_same (get_left g c x t), .inl ⟨_, rfl, _, rfl, _, _, rfl, rfl, (by omega), ?_⟩⟩
        exact ⟨_, rfl, d, _, rfl, dget_of upd_same (get_left g c x t), _, rfl, _, _, rfl, rfl, ⟨by omega, by omega⟩, _, rfl, d, _, rfl, dput_of upd_same (small4 g c x t) (put_left g c x t _), _, rfl, z⟩
    · obtain ⟨r0, z⟩ := tail l t H h0 (by omega) hd ⟨gs, hg⟩ hc (Mv.refl _ _ _)
      refine ⟨_, rfl, d, _, rfl, dget_of hd (get_left g c l t), .inl ⟨_, rfl, _, rfl, _, _, rfl, rfl, (by omega), ?_⟩⟩
      exact ⟨_, rfl, d, _, rfl, dget_of hd (get_left g c l t), _, rfl, _, _, rfl, rfl, ⟨by omega, by omega⟩, _, rfl, d, _, rfl, dput_of hd (small4 g c l t) (put_left g c l t _), _, rfl, z⟩
theorem at_int {α : Type} {xs : List α} {r : Int} (h0 : 0 ≤ r) (h1 : r < xs.length) : ∃ v, v ∈ xs ∧ atI xs r = some v := by
  obtain ⟨j, rfl⟩ := Int.eq_ofNat_of_zero_le h0
  have hj : j < xs.length := by omega
  exact ⟨xs[j], List.getElem_mem hj, atI_nat (List.getElem?_eq_getElem hj)⟩
/-- _law_pick: a sign of a text that is not empty, an item of a list that is not empty -/
def spPick : Sp := fun vs H Q _ => ∃ (d g c : Addr) (m : Nat), Dr H d g c m ∧ m ≤ 1000000000 ∧
  ((∃ z : Str, vs = [.ref d, .str z] ∧ 0 < z.length ∧ z.length ≤ 1000 ∧ ∀ (x : Nat) (H' : Hp), x ∈ z.cps.toList → Dr H' d g c (m + 1) → Mv d g H H' → Q (.str ⟨#[x]⟩) H') ∨
   (∃ (p : Addr) (xs : List V), vs = [.ref d, .ref p] ∧ H p = some (.lst xs) ∧ p ≠ g ∧ 0 < xs.length ∧ xs.length ≤ 1000 ∧ ∀ (x : V) (H' : Hp), x ∈ xs → Dr H' d g c (m + 1) → Mv d g H H' → Q x H'))
theorem ok_pick (T : Txt K mg) : FnOk P w K mg base CX0 3 T.f_law_pick T.fd_law_pick ["_law_state", "_law_some"] spPick := by
  have GT : FnOk P w K mg base CX0 2 T.f_law_take T.fd_law_take ["_law_state", "_law_size"] spTake := ok_take T
  refine T.F_law_pick.ok sc_law_pick (fun vs H Q E h => ?_) (fun cdv A outer s H vs Q E hr h => ?_)
  · obtain ⟨d, g, c, m, _, _, ⟨z, rfl, _⟩ | ⟨p, xs, rfl, _⟩⟩ := h
    · rfl
    · rfl
  · obtain ⟨d, g, c, m, D, hm, h⟩ := h
    refine ⟨_, pss_one (ps_ret (pe_ix ix_seq (pv 1) (pe_call GT hr rfl T.g_law_take T.F_law_take.kp T.b_law_take .nil pass0 (pa_cons (pv 0) (pa_cons (pe_callB call_len (by rfl) T.z_len PySem.boot_len (pa_cons (pv 1) pa_nil)) pa_nil))) (fun _ _ => rfl))), ?_⟩
    rcases h with ⟨z, rfl, z0, z1, k⟩ | ⟨p, xs, rfl, hp, npg, z0, z1, k⟩
    · have zs : z.length ≤ sizeLine := Nat.le_of_lt (small1000 z1)
      refine ⟨_, rfl, _, rfl, _, rfl, _, z.length, rfl, ⟨zs, rfl⟩, d, g, c, m, _, rfl, D, hm, by omega, by omega, fun r H' r0 r1 D' mv => ?_⟩
      obtain ⟨x, hx, ex⟩ := at_int (xs := z.cps.toList) r0 (by show r < (z.length : Int); omega)
      exact .inr (.inr ⟨z, r, x, rfl, rfl, zs, ex, k _ H' hx D' mv⟩)
    · refine ⟨_, rfl, _, rfl, _, rfl, _, xs.length, rfl, .inl ⟨xs, .inl (.inl hp), rfl⟩, d, g, c, m, _, rfl, D, hm, by omega, by omega, fun r H' r0 r1 D' mv => ?_⟩
      have npd : p ≠ d := by
        obtain ⟨l, t, _, _, hd⟩ := D.di
        exact ne_of hp hd (by intro z; cases z)
      obtain ⟨x, hx, ex⟩ := at_int (xs := xs) r0 r1
      exact .inl ⟨p, xs, r, x, rfl, rfl, .inl (.inl (mv p _ npd npg hp)), ex, k _ H' hx D' mv⟩
/-- _law_begun: a new state -/
def spBegun (K : PySem.W.Frag) : Sp := fun vs H Q _ => ∃ (a : Addr) (ns : List Int), vs = [.ref a] ∧ SqL K H a (ns.map V.int) ∧ ns.length ≤ 1000 ∧
  ∀ (d g c : Addr) (H' : Hp), H d = none → H g = none → H c = none → Dr H' d g c 0 → Same H H' → Q (.ref d) H'
theorem ok_begun (T : Txt K mg) : FnOk P w K mg base CX0 1 T.f_law_begun T.fd_law_begun ["_law_script"] (spBegun K) := by
  refine T.F_law_begun.ok sc_law_begun (fun vs H Q E h => ?_) (fun cdv A outer s H vs Q E hr h => ?_)
  · obtain ⟨a, ns, rfl, _⟩ := h
    rfl
  · obtain ⟨a, ns, rfl, hS, hl, k⟩ := h
    refine ⟨_, pss_cons (ps_setLc (i := 1) (own := [("_law_cell", 2)]) (g := gName 2) rfl sc_law_begun.nd rfl rfl (sw_true rfl rfl rfl (by decide +kernel)) (pi_list (pv 0))
        (blkOk_by (own := [("_law_cell", 2)]) (N := n_law_begun) (sc := defScope s_law_begun) (by decide +kernel))
        (fun _ _ _ _ _ => pg_name (i := 2) sc_law_begun.nd rfl (Or.inl rfl))
        (fun _ _ _ _ _ => pts_one (pt_cmpR op_ge (pv 2) (pe_op op_pow pe_int pe_int) (nomark _)))
        (fun _ _ _ _ _ => pe_op op_sub (pv 2) (pe_op op_pow pe_int pe_int)))
      (pss_one (ps_ret (pe_disp (pps_cons pe_str (pv 1) (pps_cons pe_str (pe_callTy call_list_of (by rfl) T.z_list (by decide +kernel) (pa_cons (pv 0) pa_nil)) (pps_cons pe_str pe_int (pps_cons pe_str pe_int pps_nil)))) (by rfl) (by rfl) (fun z => by cases z) (by decide)))), ?_⟩
    refine ⟨_, rfl, a, rfl, ⟨_, hS⟩, fun D hD => ?_⟩
    have sm : ∀ o, Same H (upd H D o) := fun o => same_new hD
    refine lc_list (K := K) (a := a) (xs := ns.map V.int) (fun i H1 => ∃ gs : List Int, H1 = upd H D (.lst (gs.map V.int)) ∧ gs.length ≤ i) ⟨[], rfl, Nat.le_refl _⟩
      (fun i H1 _ ⟨gs, e, _⟩ => by rw [e]; exact (sm _).seq hS) ?_ ?_
    · rintro i x H1 hx ⟨gs, rfl, hg⟩
      have hi : i < (ns.map V.int).length := (List.getElem?_eq_some_iff.mp hx).1
      rw [List.length_map] at hi
      obtain ⟨z, hz, rfl⟩ := List.mem_map.mp (List.mem_of_getElem? hx)
      refine ⟨rfl, _, rfl, _, _, rfl, rfl, ⟨by decide, by decide, by decide⟩, _, _, rfl, rfl, _, rfl, ?_⟩
      refine ite2 (fun _ => ?_) (fun _ => ?_)
      · refine ⟨_, rfl, _, _, rfl, rfl, ⟨by decide, by decide, by decide⟩, _, _, rfl, rfl, _, upd_same, ?_, ?_⟩
        · rw [List.length_map]
          exact small1000 (by omega)
        · refine ⟨gs ++ [z - 10 ^ 18], ?_, by rw [List.length_append]; show gs.length + 1 ≤ i + 1; omega⟩
          rw [upd_upd, List.map_append]
          rfl
      · exact ⟨gs, rfl, by omega⟩
    · rintro H1 ⟨gs, rfl, hg⟩
      intro d hd
      have nDd : D ≠ d := fun e => by rw [← e, upd_same] at hd; cases hd
      have hd0 : H d = none := by rw [upd_ne nDd.symm] at hd; exact hd
      have s1 : Same (upd H D (.lst (gs.map V.int))) (upd (upd H D (.lst (gs.map V.int))) d (.dK [])) := same_new hd
      refine ⟨_, rfl, _, rfl, a, _, rfl, .inl (s1.seq ((sm _).seq hS)), fun c hc => ?_⟩
      have s2 : Same (upd (upd H D (.lst (gs.map V.int))) d (.dK [])) (upd (upd (upd H D (.lst (gs.map V.int))) d (.dK [])) c (.lst (ns.map V.int))) := same_new hc
      have hgD := s2 _ _ (s1 _ _ (upd_same (H := H) (a := D) (o := .lst (gs.map V.int))))
      have hdd := s2 _ _ (upd_same (H := upd H D (.lst (gs.map V.int))) (a := d) (o := .dK []))
      have ndc : d ≠ c := fun e => by rw [← e, upd_same] at hc; cases hc
      have nDc : D ≠ c := fun e => by rw [← e] at hc; rw [s1 _ _ upd_same] at hc; cases hc
      have hc0 : H c = none := by rw [upd_ne ndc.symm, upd_ne nDc.symm] at hc; exact hc
      refine ⟨hdd, drK D c 0 0, rfl, by show 4 ≤ 15; decide, ?_⟩
      have em : mergeK [] (drK D c 0 0) = drK D c 0 0 := by kernel_rfl
      rw [em]
      refine k d D c _ hd0 hD hc0 ⟨⟨0, 0, by omega, by omega, upd_same⟩, ⟨gs, ?_⟩, ⟨ns, ?_⟩, nDc⟩ fun b o e => ?_
      · rw [upd_ne nDd]; exact hgD
      · rw [upd_ne ndc.symm, upd_same]
      · rw [upd_ne (ne_of_none e hd0)]; exact s2 _ _ (s1 _ _ (sm _ _ _ e))
end
end Sn
namespace Sn
open PySem PySem.Spec PyProof.Rows L2
abbrev D := PyData
/-- the drawing state; a shared thing by its number; any other object by its place -/
def dSt : D := .dict [(.none, .none)]
def dCell (n : Nat) : D := .dict [(.none, .int n)]
/-- the script -/
def dScr : D := .dict [(.none, .bool true)]
def dRef (a : Addr) : D := .dict [(.none, .tuple [.int (a : Nat)])]
/-- an own class's object: its class's place, its attributes -/
def dIns (C : Addr) (fs : List (Str × D)) : D := .dict ((.none, .list [.int (C : Nat)]) :: fs.map fun p => (.str p.1, p.2))
/-- no dict of data: a sign for another thing -/
def isTok : List (D × D) → Bool
  | (.none, _) :: _ => true
  | _ => false
def keyD : Key → D
  | .inl i => .int i
  | .inr z => .str z
/-- where the drawing state and the shared things stand; bo: the parameters (by slot) that a def may change, and where they stand -/
structure Amb where
  d : Addr
  g : Addr
  c : Addr
  as : List Addr
  s : Addr
  sk : Bool
  ns : List Int
  bo : List (Nat × Addr)
/-- how many numbers were mixed at most; what the shared things hold -/
structure Rs where
  m : Nat
  cs : List D
  sl : Nat
def Amb.U (A : Amb) (a : Addr) : Prop := a = A.d ∨ a = A.g ∨ a = A.c ∨ a ∈ A.as ∨ (A.sk = true ∧ a = A.s)
/-- a dict stands at a; it may be locked (a loop walks it) -/
def IsK (H : Hp) (a : Addr) (xs : List (Key × V)) : Prop := H a = some (.dK xs) ∨ ∃ o, H a = some (.frz o (.dK xs))
theorem IsK.mov {H H' : Hp} {a : Addr} {xs : List (Key × V)} (h : IsK H a xs) (k : ∀ o, H a = some o → H' a = some o) : IsK H' a xs := h.imp (k _) fun ⟨o, h⟩ => ⟨o, k _ h⟩
theorem IsK.some {H : Hp} {a : Addr} {xs : List (Key × V)} (h : IsK H a xs) : H a ≠ none := by
  rcases h with h | ⟨o, h⟩ <;> (rw [h]; intro z; cases z)
mutual
/-- v is the data d; lists and dicts in it stand at places of W (they stay as they are) -/
inductive Dw (K : PySem.W.Frag) (A : Amb) (W : Addr → Prop) (H : Hp) : V → D → Prop
  | non : Dw K A W H .non .none
  | bl (b : Bool) : Dw K A W H (.bl b) (.bool b)
  | int (i : Int) : Dw K A W H (.int i) (.int i)
  | str (z : Str) : Dw K A W H (.str z) (.str z)
  | tup {a : Addr} {xs : List V} {ds : List D} : SqT K H a xs → DwA K A W H xs ds → Dw K A W H (.ref a) (.tuple ds)
  | lst {a : Addr} {xs : List V} {ds : List D} : W a → H a = some (.lst xs) → DwA K A W H xs ds → Dw K A W H (.ref a) (.list ds)
  | dk {a : Addr} {xs : List (Key × V)} {ds : List (D × D)} : W a → IsK H a xs → DwK K A W H xs ds → Dw K A W H (.ref a) (.dict ds)
  | st : Dw K A W H (.ref A.d) dSt
  | scr : Dw K A W H (.ref A.s) dScr
  | cell {n : Nat} {a : Addr} : A.as[n]? = some a → Dw K A W H (.ref a) (dCell n)
  | obj (a : Addr) : Dw K A W H (.ref a) (dRef a)
  | ins {a C dx : Addr} {xs : List (Str × V)} {ds : List (Str × D)} : W a → W dx → H a = some (.ins C dx xs) → H dx = some (.own a) → DwF K A W H xs ds → Dw K A W H (.ref a) (dIns C ds)
inductive DwA (K : PySem.W.Frag) (A : Amb) (W : Addr → Prop) (H : Hp) : List V → List D → Prop
  | nil : DwA K A W H [] []
  | cons {v : V} {vs : List V} {d : D} {ds : List D} : Dw K A W H v d → DwA K A W H vs ds → DwA K A W H (v :: vs) (d :: ds)
inductive DwK (K : PySem.W.Frag) (A : Amb) (W : Addr → Prop) (H : Hp) : List (Key × V) → List (D × D) → Prop
  | nil : DwK K A W H [] []
  | cons {k : Key} {v : V} {vs : List (Key × V)} {d : D} {ds : List (D × D)} : Dw K A W H v d → DwK K A W H vs ds → DwK K A W H ((k, v) :: vs) ((keyD k, d) :: ds)
inductive DwF (K : PySem.W.Frag) (A : Amb) (W : Addr → Prop) (H : Hp) : List (Str × V) → List (Str × D) → Prop
  | nil : DwF K A W H [] []
  | cons {k : Str} {v : V} {vs : List (Str × V)} {d : D} {ds : List (Str × D)} : Dw K A W H v d → DwF K A W H vs ds → DwF K A W H ((k, v) :: vs) ((k, d) :: ds)
end
/-- what was there stays, but what the state and the shared things hold; what froze newly is new -/
structure Ext (K : PySem.W.Frag) (A : Amb) (W : Addr → Prop) (H : Hp) (W' : Addr → Prop) (H' : Hp) : Prop where
  fr : ∀ a o, ¬ A.U a → H a = some o → H' a = some o
  al : ∀ a, H' a = none → H a = none
  tp : ∀ a xs, SqT K H a xs → SqT K H' a xs
  wk : ∀ a, W a → W' a
  wn : ∀ a, W' a → W a ∨ H a = none
section
variable {K : PySem.W.Frag} {A : Amb} {W W' W2 : Addr → Prop} {H H' H2 : Hp}
theorem Ext.refl : Ext K A W H W H := ⟨fun _ _ _ e => e, fun _ e => e, fun _ _ e => e, fun _ e => e, fun _ e => .inl e⟩
theorem Ext.trans (x : Ext K A W H W' H') (y : Ext K A W' H' W2 H2) : Ext K A W H W2 H2 :=
  ⟨fun a o n e => y.fr a o n (x.fr a o n e), fun a e => x.al a (y.al a e), fun a xs e => y.tp a xs (x.tp a xs e), fun a e => y.wk a (x.wk a e),
   fun a e => (y.wn a e).elim (x.wn a) fun q => .inr (x.al a q)⟩
theorem sqT_same {a : Addr} {xs : List V} (s : Same H H') (h : SqT K H a xs) : SqT K H' a xs := by
  rcases h with (h | ⟨o, h⟩) | h
  · exact .inl (.inl (s _ _ h))
  · exact .inl (.inr ⟨o, s _ _ h⟩)
  · exact .inr h
theorem al_same (s : Same H H') : ∀ a, H' a = none → H a = none := fun a e => by
  cases h : H a with
  | none => rfl
  | some o => rw [s a o h] at e; cases e
theorem Ext.same (s : Same H H') : Ext K A W H W H' := ⟨fun a o _ e => s a o e, al_same s, fun a xs e => sqT_same s e, fun _ e => e, fun _ e => .inl e⟩
theorem Ext.new {p : Addr} {o : HO} (hp : H p = none) : Ext K A W H W (upd H p o) := Ext.same (same_new hp)
/-- frozen together with a new place -/
def wPlus (W : Addr → Prop) (p : Addr) : Addr → Prop := fun a => W a ∨ a = p
theorem Ext.plus {p : Addr} (x : Ext K A W H W' H') (hp : H p = none) : Ext K A W H (wPlus W' p) H' :=
  ⟨x.fr, x.al, x.tp, fun a e => .inl (x.wk a e), fun a e => e.elim (x.wn a) fun q => .inr (by rw [q]; exact hp)⟩
mutual
theorem Dw.mov (hw : ∀ a, W a → W' a) (hl : ∀ a o, W a → H a = some o → H' a = some o) (ht : ∀ a xs, SqT K H a xs → SqT K H' a xs) : ∀ {v : V} {d : D}, Dw K A W H v d → Dw K A W' H' v d
  | _, _, .non => .non
  | _, _, .bl b => .bl b
  | _, _, .int i => .int i
  | _, _, .str z => .str z
  | _, _, .tup h a => .tup (ht _ _ h) (DwA.mov hw hl ht a)
  | _, _, .lst w h a => .lst (hw _ w) (hl _ _ w h) (DwA.mov hw hl ht a)
  | _, _, .dk w h a => .dk (hw _ w) (h.mov fun o => hl _ o w) (DwK.mov hw hl ht a)
  | _, _, .st => .st
  | _, _, .scr => .scr
  | _, _, .cell h => .cell h
  | _, _, .obj a => .obj a
  | _, _, .ins w w2 h h2 a => .ins (hw _ w) (hw _ w2) (hl _ _ w h) (hl _ _ w2 h2) (DwF.mov hw hl ht a)
theorem DwA.mov (hw : ∀ a, W a → W' a) (hl : ∀ a o, W a → H a = some o → H' a = some o) (ht : ∀ a xs, SqT K H a xs → SqT K H' a xs) : ∀ {v : List V} {d : List D}, DwA K A W H v d → DwA K A W' H' v d
  | _, _, .nil => .nil
  | _, _, .cons h a => .cons (Dw.mov hw hl ht h) (DwA.mov hw hl ht a)
theorem DwK.mov (hw : ∀ a, W a → W' a) (hl : ∀ a o, W a → H a = some o → H' a = some o) (ht : ∀ a xs, SqT K H a xs → SqT K H' a xs) : ∀ {v : List (Key × V)} {d : List (D × D)}, DwK K A W H v d → DwK K A W' H' v d
  | _, _, .nil => .nil
  | _, _, .cons h a => .cons (Dw.mov hw hl ht h) (DwK.mov hw hl ht a)
theorem DwF.mov (hw : ∀ a, W a → W' a) (hl : ∀ a o, W a → H a = some o → H' a = some o) (ht : ∀ a xs, SqT K H a xs → SqT K H' a xs) : ∀ {v : List (Str × V)} {d : List (Str × D)}, DwF K A W H v d → DwF K A W' H' v d
  | _, _, .nil => .nil
  | _, _, .cons h a => .cons (Dw.mov hw hl ht h) (DwF.mov hw hl ht a)
end
mutual
/-- the places of another def's parameters -/
theorem Dw.reb {B : Amb} (h1 : B.d = A.d) (h2 : B.s = A.s) (h3 : B.as = A.as) : ∀ {v : V} {d : D}, Dw K A W H v d → Dw K B W H v d
  | _, _, .non => .non
  | _, _, .bl b => .bl b
  | _, _, .int i => .int i
  | _, _, .str z => .str z
  | _, _, .tup h a => .tup h (DwA.reb h1 h2 h3 a)
  | _, _, .lst w h a => .lst w h (DwA.reb h1 h2 h3 a)
  | _, _, .dk w h a => .dk w h (DwK.reb h1 h2 h3 a)
  | _, _, .st => by rw [← h1]; exact .st
  | _, _, .scr => by rw [← h2]; exact .scr
  | _, _, .cell h => .cell (by rw [h3]; exact h)
  | _, _, .obj a => .obj a
  | _, _, .ins w w2 h h2' a => .ins w w2 h h2' (DwF.reb h1 h2 h3 a)
theorem DwA.reb {B : Amb} (h1 : B.d = A.d) (h2 : B.s = A.s) (h3 : B.as = A.as) : ∀ {v : List V} {d : List D}, DwA K A W H v d → DwA K B W H v d
  | _, _, .nil => .nil
  | _, _, .cons h a => .cons (Dw.reb h1 h2 h3 h) (DwA.reb h1 h2 h3 a)
theorem DwK.reb {B : Amb} (h1 : B.d = A.d) (h2 : B.s = A.s) (h3 : B.as = A.as) : ∀ {v : List (Key × V)} {d : List (D × D)}, DwK K A W H v d → DwK K B W H v d
  | _, _, .nil => .nil
  | _, _, .cons h a => .cons (Dw.reb h1 h2 h3 h) (DwK.reb h1 h2 h3 a)
theorem DwF.reb {B : Amb} (h1 : B.d = A.d) (h2 : B.s = A.s) (h3 : B.as = A.as) : ∀ {v : List (Str × V)} {d : List (Str × D)}, DwF K A W H v d → DwF K B W H v d
  | _, _, .nil => .nil
  | _, _, .cons h a => .cons (Dw.reb h1 h2 h3 h) (DwF.reb h1 h2 h3 a)
end
theorem Dw.ext {v : V} {d : D} (h : Dw K A W H v d) (x : Ext K A W H W' H') (av : ∀ a, W a → ¬ A.U a) : Dw K A W' H' v d := Dw.mov x.wk (fun a o w e => x.fr a o (av a w) e) x.tp h
theorem DwA.ext {v : List V} {d : List D} (h : DwA K A W H v d) (x : Ext K A W H W' H') (av : ∀ a, W a → ¬ A.U a) : DwA K A W' H' v d := DwA.mov x.wk (fun a o w e => x.fr a o (av a w) e) x.tp h
theorem DwK.ext {v : List (Key × V)} {d : List (D × D)} (h : DwK K A W H v d) (x : Ext K A W H W' H') (av : ∀ a, W a → ¬ A.U a) : DwK K A W' H' v d := DwK.mov x.wk (fun a o w e => x.fr a o (av a w) e) x.tp h
theorem DwF.ext {v : List (Str × V)} {d : List (Str × D)} (h : DwF K A W H v d) (x : Ext K A W H W' H') (av : ∀ a, W a → ¬ A.U a) : DwF K A W' H' v d := DwF.mov x.wk (fun a o w e => x.fr a o (av a w) e) x.tp h
theorem DwA.len : ∀ {vs : List V} {ds : List D}, DwA K A W H vs ds → vs.length = ds.length
  | _, _, .nil => rfl
  | _, _, .cons _ a => by rw [List.length_cons, List.length_cons, a.len]
theorem DwK.len : ∀ {vs : List (Key × V)} {ds : List (D × D)}, DwK K A W H vs ds → vs.length = ds.length
  | _, _, .nil => rfl
  | _, _, .cons _ a => by rw [List.length_cons, List.length_cons, a.len]
theorem DwA.get : ∀ {vs : List V} {ds : List D}, DwA K A W H vs ds → ∀ {i : Nat} {d : D}, ds[i]? = some d → ∃ v, vs[i]? = some v ∧ Dw K A W H v d
  | _, _, .nil, i, v, h => by simp at h
  | _, _, .cons h a, 0, v, e => by
    simp only [List.getElem?_cons_zero, Option.some.injEq] at e
    subst e
    exact ⟨_, rfl, h⟩
  | _, _, .cons h a, i + 1, v, e => by
    simp only [List.getElem?_cons_succ] at e ⊢
    exact a.get e
theorem DwA.getV : ∀ {vs : List V} {ds : List D}, DwA K A W H vs ds → ∀ {i : Nat} {v : V}, vs[i]? = some v → ∃ d, ds[i]? = some d ∧ Dw K A W H v d
  | _, _, .nil, i, v, h => by simp at h
  | _, _, .cons h a, 0, v, e => by
    simp only [List.getElem?_cons_zero, Option.some.injEq] at e
    subst e
    exact ⟨_, rfl, h⟩
  | _, _, .cons h a, i + 1, v, e => by
    simp only [List.getElem?_cons_succ] at e ⊢
    exact a.getV e
theorem DwA.app : ∀ {vs ws : List V} {ds es : List D}, DwA K A W H vs ds → DwA K A W H ws es → DwA K A W H (vs ++ ws) (ds ++ es)
  | _, _, _, _, .nil, b => b
  | _, _, _, _, .cons h a, b => .cons h (a.app b)
theorem DwA.take : ∀ {vs : List V} {ds : List D}, DwA K A W H vs ds → ∀ n, DwA K A W H (vs.take n) (ds.take n)
  | _, _, .nil, n => by simp; exact .nil
  | _, _, .cons h a, 0 => .nil
  | _, _, .cons h a, n + 1 => .cons h (a.take n)
theorem DwA.drop : ∀ {vs : List V} {ds : List D}, DwA K A W H vs ds → ∀ n, DwA K A W H (vs.drop n) (ds.drop n)
  | _, _, .nil, n => by simp; exact .nil
  | _, _, .cons h a, 0 => .cons h a
  | _, _, .cons h a, n + 1 => a.drop n
theorem DwF.len : ∀ {vs : List (Str × V)} {ds : List (Str × D)}, DwF K A W H vs ds → vs.length = ds.length
  | _, _, .nil => rfl
  | _, _, .cons _ a => by rw [List.length_cons, List.length_cons, a.len]
/-- what stands at a place of its own: a list, a dict or an own class's object, of frozen things -/
inductive Own (K : PySem.W.Frag) (A : Amb) (W : Addr → Prop) (H : Hp) (a : Addr) : D → Prop
  | lst {xs : List V} {ds : List D} : H a = some (.lst xs) → DwA K A W H xs ds → Own K A W H a (.list ds)
  | dk {xs : List (Key × V)} {ds : List (D × D)} : H a = some (.dK xs) → DwK K A W H xs ds → Own K A W H a (.dict ds)
  | ins {C dx : Addr} {xs : List (Str × V)} {ds : List (Str × D)} : W dx → H a = some (.ins C dx xs) → H dx = some (.own a) → DwF K A W H xs ds → Own K A W H a (dIns C ds)
theorem Own.mov {a : Addr} {d : D} (hw : ∀ a, W a → W' a) (hl : ∀ a o, W a → H a = some o → H' a = some o) (ht : ∀ a xs, SqT K H a xs → SqT K H' a xs) (h : Own K A W H a d) (ha : ∀ o, H a = some o → H' a = some o) : Own K A W' H' a d := by
  cases h with
  | lst h q => exact .lst (ha _ h) (DwA.mov hw hl ht q)
  | dk h q => exact .dk (ha _ h) (DwK.mov hw hl ht q)
  | ins w h h2 q => exact .ins (hw _ w) (ha _ h) (hl _ _ w h2) (DwF.mov hw hl ht q)
theorem Own.reb {B : Amb} {a : Addr} {d : D} (h1 : B.d = A.d) (h2 : B.s = A.s) (h3 : B.as = A.as) (h : Own K A W H a d) : Own K B W H a d := by
  cases h with
  | lst h q => exact .lst h (q.reb h1 h2 h3)
  | dk h q => exact .dk h (q.reb h1 h2 h3)
  | ins w h h2' q => exact .ins w h h2' (q.reb h1 h2 h3)
theorem Own.ext {a : Addr} {d : D} (h : Own K A W H a d) (x : Ext K A W H W' H') (av : ∀ a, W a → ¬ A.U a) (ha : ∀ o, H a = some o → H' a = some o) : Own K A W' H' a d := h.mov x.wk (fun a o w e => x.fr a o (av a w) e) x.tp ha
theorem Own.isSome {a : Addr} {d : D} (h : Own K A W H a d) : H a ≠ none := by
  cases h with
  | lst h q => rw [h]; intro z; cases z
  | dk h q => rw [h]; intro z; cases z
  | ins w h h2 q => rw [h]; intro z; cases z
/-- an owned thing is frozen -/
theorem Own.dw {a : Addr} {d : D} (h : Own K A W H a d) (ha : W a) : Dw K A W H (.ref a) d := by
  cases h with
  | lst h q => exact .lst ha h q
  | dk h q => exact .dk ha (.inl h) q
  | ins w h h2 q => exact .ins ha w h h2 q
/-- .. a dict among them may be locked -/
inductive OwnL (K : PySem.W.Frag) (A : Amb) (W : Addr → Prop) (H : Hp) (a : Addr) : D → Prop
  | own {d : D} : Own K A W H a d → OwnL K A W H a d
  | lk {o : Obj} {xs : List (Key × V)} {ds : List (D × D)} : H a = some (.frz o (.dK xs)) → DwK K A W H xs ds → OwnL K A W H a (.dict ds)
theorem OwnL.mov {a : Addr} {d : D} (hw : ∀ a, W a → W' a) (hl : ∀ a o, W a → H a = some o → H' a = some o) (ht : ∀ a xs, SqT K H a xs → SqT K H' a xs) (h : OwnL K A W H a d) (ha : ∀ o, H a = some o → H' a = some o) : OwnL K A W' H' a d := by
  cases h with
  | own h => exact .own (h.mov hw hl ht ha)
  | lk h q => exact .lk (ha _ h) (DwK.mov hw hl ht q)
theorem OwnL.ext {a : Addr} {d : D} (h : OwnL K A W H a d) (x : Ext K A W H W' H') (av : ∀ a, W a → ¬ A.U a) (ha : ∀ o, H a = some o → H' a = some o) : OwnL K A W' H' a d := h.mov x.wk (fun a o w e => x.fr a o (av a w) e) x.tp ha
theorem OwnL.isSome {a : Addr} {d : D} (h : OwnL K A W H a d) : H a ≠ none := by
  cases h with
  | own h => exact h.isSome
  | lk h q => rw [h]; intro z; cases z
theorem OwnL.reb {B : Amb} {a : Addr} {d : D} (h1 : B.d = A.d) (h2 : B.s = A.s) (h3 : B.as = A.as) (h : OwnL K A W H a d) : OwnL K B W H a d := by
  cases h with
  | own h => exact .own (h.reb h1 h2 h3)
  | lk h q => exact .lk h (q.reb h1 h2 h3)
/-- the script stands -/
def ScrOk (K : PySem.W.Frag) (A : Amb) (H : Hp) : Prop := (A.sk = true ∧ Rd H A.s (.lst (A.ns.map V.int))) ∨ (A.sk = false ∧ ∃ (o : Obj) (its : Array Value) (n : Nat), K.lookup A.s = some o ∧ o.cls = .type "list" ∧ o.dict = none ∧ o.data = .seq its n ∧ its.size ≤ sizeLine ∧ Vals (A.ns.map V.int) its.toList)
theorem ScrOk.mov {K : PySem.W.Frag} {A : Amb} {H H' : Hp} (h : ScrOk K A H) (k : A.sk = true → ∀ o, H A.s = some o → H' A.s = some o) : ScrOk K A H' := by
  rcases h with ⟨e, h⟩ | h
  · refine .inl ⟨e, ?_⟩
    rcases h with h | ⟨o, h⟩
    · exact .inl (k e _ h)
    · exact .inr ⟨o, k e _ h⟩
  · exact .inr h
theorem ScrOk.some {K : PySem.W.Frag} {A : Amb} {H : Hp} (h : ScrOk K A H) (e : A.sk = true) : H A.s ≠ none := by
  rcases h with ⟨_, h⟩ | ⟨e', _⟩
  · rcases h with h | ⟨o, h⟩ <;> (rw [h]; intro z; cases z)
  · rw [e] at e'; cases e'
theorem ScrOk.seq {K : PySem.W.Frag} {A : Amb} {H : Hp} (h : ScrOk K A H) : SqL K H A.s (A.ns.map V.int) := by
  rcases h with ⟨_, h⟩ | ⟨_, h⟩
  · exact .inl h
  · exact .inr h
/-- the state and the shared things stand -/
structure Res (K : PySem.W.Frag) (A : Amb) (W : Addr → Prop) (H : Hp) (r : Rs) : Prop where
  dr : Dr H A.d A.g A.c r.m
  sc : ScrOk K A H
  sl : r.sl = A.ns.length
  sg : A.sk = true → A.s ≠ A.g
  le : A.as.length = r.cs.length
  ce : ∀ (n : Nat) (a : Addr) (d : D), A.as[n]? = some a → r.cs[n]? = some d → Own K A W H a d
  nd : A.as.Nodup
  na : A.d ∉ A.as ∧ A.g ∉ A.as ∧ A.c ∉ A.as ∧ (A.sk = true → A.s ∉ A.as)
  av : ∀ a, W a → ¬ A.U a
  wa : ∀ a, W a → H a ≠ none
theorem Res.same {r : Rs} (h : Res K A W H r) (s : Same H H') : Res K A W H' r :=
  ⟨h.dr.same s, h.sc.mov (fun _ o e => s _ o e), h.sl, h.sg, h.le, fun n a d e1 e2 => (h.ce n a d e1 e2).ext (Ext.same s) h.av fun o e => s _ _ e, h.nd, h.na, h.av, fun a w e => h.wa a w (al_same s a e)⟩
theorem Res.plus {r : Rs} {p : Addr} (h : Res K A W H r) (hp : ¬ A.U p) (hs : H p ≠ none) : Res K A (wPlus W p) H r :=
  ⟨h.dr, h.sc, h.sl, h.sg, h.le, fun n a d e1 e2 => (h.ce n a d e1 e2).mov (fun _ e => .inl e) (fun _ _ _ e => e) (fun _ _ e => e) fun o e => e, h.nd, h.na, fun a e => e.elim (h.av a) fun q => by rw [q]; exact hp, fun a e => e.elim (h.wa a) fun q => by rw [q]; exact hs⟩
theorem Res.uSome {r : Rs} {a : Addr} (h : Res K A W H r) (u : A.U a) : H a ≠ none := by
  rcases u with rfl | rfl | rfl | u | ⟨sk, rfl⟩
  · obtain ⟨l, t, _, _, e⟩ := h.dr.di
    rw [e]; intro z; cases z
  · obtain ⟨l, e⟩ := h.dr.gr
    rw [e]; intro z; cases z
  · obtain ⟨l, e⟩ := h.dr.ce
    rw [e]; intro z; cases z
  · obtain ⟨n, hn, e⟩ := List.getElem_of_mem u
    have h1 : n < r.cs.length := by rw [← h.le]; exact hn
    exact (h.ce n a r.cs[n] (by rw [← e]; exact List.getElem?_eq_getElem hn) (List.getElem?_eq_getElem h1)).isSome
  · exact h.sc.some sk
theorem Res.uNew {r : Rs} {p : Addr} (h : Res K A W H r) (hp : H p = none) : ¬ A.U p := fun u => h.uSome u hp
end
/-- the same places, for another def's parameters -/
structure Amb.Like (A B : Amb) : Prop where
  d : B.d = A.d
  g : B.g = A.g
  c : B.c = A.c
  as : B.as = A.as
  s : B.s = A.s
  sk : B.sk = A.sk
  ns : B.ns = A.ns
theorem Amb.Like.sym {A B : Amb} (h : A.Like B) : B.Like A := ⟨h.d.symm, h.g.symm, h.c.symm, h.as.symm, h.s.symm, h.sk.symm, h.ns.symm⟩
theorem Amb.Like.U {A B : Amb} (h : A.Like B) (a : Addr) : B.U a ↔ A.U a := by
  unfold Amb.U
  rw [h.d, h.g, h.c, h.as, h.s, h.sk]
def Amb.reb (A : Amb) (b : List (Nat × Addr)) : Amb := { A with bo := b }
theorem Amb.like (A : Amb) (b : List (Nat × Addr)) : A.Like (A.reb b) := ⟨rfl, rfl, rfl, rfl, rfl, rfl, rfl⟩
section
variable {K : PySem.W.Frag} {A B : Amb} {W W' : Addr → Prop} {H H' : Hp} {r : Rs}
theorem Ext.reb (l : A.Like B) (x : Ext K A W H W' H') : Ext K B W H W' H' := ⟨fun a o u e => x.fr a o (fun z => u ((l.U a).mpr z)) e, x.al, x.tp, x.wk, x.wn⟩
theorem Res.reb (l : A.Like B) (R : Res K A W H r) : Res K B W H r := by
  have e : B = { A with bo := B.bo } := by
    cases A; cases B
    obtain ⟨h1, h2, h3, h4, h5, h6, h7⟩ := l
    simp only at h1 h2 h3 h4 h5 h6 h7
    subst h1 h2 h3 h4 h5 h6 h7
    rfl
  refine ⟨by rw [l.d, l.g, l.c]; exact R.dr, ?_, by rw [l.ns]; exact R.sl, by rw [l.sk, l.s, l.g]; exact R.sg, by rw [l.as]; exact R.le, fun n a d e1 e2 => (R.ce n a d (by rw [← l.as]; exact e1) e2).reb l.d l.s l.as, by rw [l.as]; exact R.nd, by rw [l.as, l.d, l.g, l.c, l.sk, l.s]; exact R.na, fun a w u => R.av a w ((l.U a).mp u), R.wa⟩
  have h := R.sc
  unfold ScrOk at h ⊢
  rw [l.sk, l.s, l.ns]
  exact h
end
abbrev En := List (Option D)
/-- slot i is among O a thing of its own that the def may change; .. that may be put elsewhere, too.
O tells of a slot i: i + 1000: the place was handed in, and is handed back (a parameter that the def changes); i + 2000: it is read alone -/
def Fre (O : List Nat) (i : Nat) : Prop := i ∈ O ∧ i + 2000 ∉ O
def Rep (O : List Nat) (i : Nat) : Prop := i + 2000 ∉ O ∧ i + 1000 ∉ O ∧ i < 1000
instance (O : List Nat) (i : Nat) : Decidable (Fre O i) := by unfold Fre; infer_instance
instance (O : List Nat) (i : Nat) : Decidable (Rep O i) := by unfold Rep; infer_instance
/-- the slots σ hold the data ρ: those of O each a thing of its own, all others frozen things -/
structure Env (K : PySem.W.Frag) (A : Amb) (W0 : Addr → Prop) (H0 : Hp) (O : List Nat) (W : Addr → Prop) (σ : L2.St) (H : Hp) (ρ : En) (r : Rs) : Prop where
  len : σ.length = ρ.length
  var : ∀ (i : Nat) (d : D), ρ[i]? = some (some d) → i ∉ O → ∃ v, σ[i]? = some (some v) ∧ Dw K A W H v d
  own : ∀ (i : Nat) (d : D), ρ[i]? = some (some d) → Fre O i → ∃ a, σ[i]? = some (some (.ref a)) ∧ Own K A W H a d ∧ ¬ W a ∧ ¬ A.U a ∧ H0 a = none
  rdo : ∀ (i : Nat) (d : D), ρ[i]? = some (some d) → i + 2000 ∈ O → ∃ v, σ[i]? = some (some v) ∧ (Dw K A W H v d ∨ ∃ a, v = .ref a ∧ OwnL K A W H a d ∧ ¬ A.U a ∧ H0 a ≠ none) ∧ ∀ a kvs, v = .ref a → d = .dict kvs → isTok kvs = false → H0 a ≠ none
  rin : ∀ i, i + 2000 ∈ O → i ∈ O
  bor : ∀ (i : Nat) (a : Addr), (i, a) ∈ A.bo → Fre O i ∧ i + 1000 ∈ O ∧ i < 1000 ∧ σ[i]? = some (some (.ref a)) ∧ ∃ d, ρ[i]? = some (some d)
  dis : ∀ (i j : Nat) (a : Addr) (d e : D), Fre O i → Fre O j → i ≠ j → ρ[i]? = some (some d) → ρ[j]? = some (some e) → σ[i]? = some (some (.ref a)) → σ[j]? = some (some (.ref a)) → False
  res : Res K A W H r
  bs : Ext K A W0 H0 W H
section
variable {K : PySem.W.Frag} {A : Amb} {W0 W W' W2 : Addr → Prop} {H0 H H' H2 : Hp} {O : List Nat} {σ : L2.St} {ρ : En} {r r' : Rs} {v : V} {d : D} {i : Nat} {a : Addr}
theorem Env.ext (E : Env K A W0 H0 O W σ H ρ r) (x : Ext K A W H W' H') (s : Res K A W' H' r') : Env K A W0 H0 O W' σ H' ρ r' where
  len := E.len
  var := fun i d e n => by
    obtain ⟨v, h1, h2⟩ := E.var i d e n
    exact ⟨v, h1, h2.ext x E.res.av⟩
  own := fun i d e n => by
    obtain ⟨a, h1, h2, h3, h4, h5⟩ := E.own i d e n
    refine ⟨a, h1, h2.ext x E.res.av fun o q => x.fr a o h4 q, fun q => ?_, h4, h5⟩
    rcases x.wn a q with q | q
    · exact h3 q
    · exact h2.isSome q
  rdo := fun i d e n => by
    obtain ⟨v, h1, h2, hk⟩ := E.rdo i d e n
    refine ⟨v, h1, ?_, hk⟩
    rcases h2 with h2 | ⟨a, e, h2, h3, h4⟩
    · exact .inl (h2.ext x E.res.av)
    · exact .inr ⟨a, e, h2.ext x E.res.av fun o q => x.fr a o h3 q, h3, h4⟩
  rin := E.rin
  bor := E.bor
  dis := E.dis
  res := s
  bs := E.bs.trans x
theorem Env.same (E : Env K A W0 H0 O W σ H ρ r) (s : Same H H') : Env K A W0 H0 O W σ H' ρ r := E.ext (Ext.same s) (E.res.same s)
theorem Env.new {p : Addr} {o : HO} (E : Env K A W0 H0 O W σ H ρ r) (hp : H p = none) : Env K A W0 H0 O W σ (upd H p o) ρ r := E.same (same_new hp)
theorem Env.plus (E : Env K A W0 H0 O W σ H ρ r) {p : Addr} (hu : ¬ A.U p) (hs : H p ≠ none) (h0 : H0 p = none) (hO : ∀ (i : Nat) (d : D), ρ[i]? = some (some d) → Fre O i → σ[i]? ≠ some (some (.ref p))) : Env K A W0 H0 O (wPlus W p) σ H ρ r where
  len := E.len
  var := fun i d e n => by
    obtain ⟨v, h1, h2⟩ := E.var i d e n
    exact ⟨v, h1, h2.mov (fun _ e => .inl e) (fun _ _ _ e => e) fun _ _ e => e⟩
  own := fun i d e n => by
    obtain ⟨a, h1, h2, h3, h4, h5⟩ := E.own i d e n
    refine ⟨a, h1, h2.mov (fun _ e => .inl e) (fun _ _ _ e => e) (fun _ _ e => e) fun o q => q, fun q => ?_, h4, h5⟩
    rcases q with q | q
    · exact h3 q
    · exact hO i d e n (by rw [h1, q])
  rdo := fun i d e n => by
    obtain ⟨v, h1, h2, hk⟩ := E.rdo i d e n
    refine ⟨v, h1, ?_, hk⟩
    rcases h2 with h2 | ⟨a, e, h2, h3, h4⟩
    · exact .inl (h2.mov (fun _ e => .inl e) (fun _ _ _ e => e) fun _ _ e => e)
    · exact .inr ⟨a, e, h2.mov (fun _ e => .inl e) (fun _ _ _ e => e) (fun _ _ e => e) fun o q => q, h3, h4⟩
  rin := E.rin
  bor := E.bor
  dis := E.dis
  res := E.res.plus hu hs
  bs := E.bs.plus h0
theorem Env.nw (E : Env K A W0 H0 O W σ H ρ r) (h : H a = none) : ¬ W a := fun w => E.res.wa a w h
theorem Env.h0 (E : Env K A W0 H0 O W σ H ρ r) (h : H a = none) : H0 a = none := E.bs.al a h
/-- a new thing is none of the owned ones -/
theorem Env.fresh (E : Env K A W0 H0 O W σ H ρ r) (h : H a = none) : ∀ (i : Nat) (d : D), ρ[i]? = some (some d) → Fre O i → σ[i]? ≠ some (some (.ref a)) := fun i d e n q => by
  obtain ⟨b, h1, h2, _⟩ := E.own i d e n
  rw [h1] at q
  cases q
  exact h2.isSome h
theorem Env.set (E : Env K A W0 H0 O W σ H ρ r) (n : i ∉ O) (h : Dw K A W H v d) : Env K A W0 H0 O W (σ.set i (some v)) H (ρ.set i (some d)) r where
  len := by rw [List.length_set, List.length_set]; exact E.len
  var := fun j e h1 h2 => by
    by_cases q : i = j
    · subst q
      have hl : i < ρ.length := by
        have := (List.getElem?_eq_some_iff.mp h1).1
        rwa [List.length_set] at this
      rw [List.getElem?_set_self hl] at h1
      cases h1
      exact ⟨v, List.getElem?_set_self (by rw [E.len]; exact hl), h⟩
    · rw [List.getElem?_set_ne q] at h1 ⊢
      exact E.var j e h1 h2
  own := fun j e h1 h2 => by
    have q : i ≠ j := fun q => n (by rw [q]; exact h2.1)
    rw [List.getElem?_set_ne q] at h1 ⊢
    exact E.own j e h1 h2
  rdo := fun j e h1 h2 => by
    have q : i ≠ j := fun q => n (by rw [q]; exact E.rin j h2)
    rw [List.getElem?_set_ne q] at h1 ⊢
    exact E.rdo j e h1 h2
  rin := E.rin
  bor := fun j b h => by
    obtain ⟨h1, h2, h3, h4, d, h5⟩ := E.bor j b h
    have q : i ≠ j := fun q => n (by rw [q]; exact h1.1)
    exact ⟨h1, h2, h3, by rw [List.getElem?_set_ne q]; exact h4, d, by rw [List.getElem?_set_ne q]; exact h5⟩
  dis := fun j k a e1 e2 h1 h2 h3 h4 h5 h6 h7 => by
    have q1 : i ≠ j := fun q => n (by rw [q]; exact h1.1)
    have q2 : i ≠ k := fun q => n (by rw [q]; exact h2.1)
    rw [List.getElem?_set_ne q1] at h4 h6
    rw [List.getElem?_set_ne q2] at h5 h7
    exact E.dis j k a e1 e2 h1 h2 h3 h4 h5 h6 h7
  res := E.res
  bs := E.bs
/-- an owned name gets a new thing -/
theorem Env.setO (E : Env K A W0 H0 O W σ H ρ r) (n : i ∈ O) (nr : Rep O i) (h : Own K A W H a d) (hw : ¬ W a) (hu : ¬ A.U a) (h0 : H0 a = none) (hO : ∀ (j : Nat) (e : D), ρ[j]? = some (some e) → Fre O j → σ[j]? ≠ some (some (.ref a))) : Env K A W0 H0 O W (σ.set i (some (.ref a))) H (ρ.set i (some d)) r where
  len := by rw [List.length_set, List.length_set]; exact E.len
  var := fun j e h1 h2 => by
    have q : i ≠ j := fun q => h2 (by rw [← q]; exact n)
    rw [List.getElem?_set_ne q] at h1 ⊢
    exact E.var j e h1 h2
  own := fun j e h1 h2 => by
    by_cases q : i = j
    · subst q
      have hl : i < ρ.length := by
        have := (List.getElem?_eq_some_iff.mp h1).1
        rwa [List.length_set] at this
      rw [List.getElem?_set_self hl] at h1
      cases h1
      exact ⟨a, List.getElem?_set_self (by rw [E.len]; exact hl), h, hw, hu, h0⟩
    · rw [List.getElem?_set_ne q] at h1 ⊢
      exact E.own j e h1 h2
  rdo := fun j e h1 h2 => by
    have q : i ≠ j := fun q => nr.1 (by rw [q]; exact h2)
    rw [List.getElem?_set_ne q] at h1 ⊢
    exact E.rdo j e h1 h2
  rin := E.rin
  bor := fun j b h => by
    obtain ⟨h1, h2, h3, h4, d, h5⟩ := E.bor j b h
    have q : i ≠ j := fun q => nr.2.1 (by rw [q]; exact h2)
    exact ⟨h1, h2, h3, by rw [List.getElem?_set_ne q]; exact h4, d, by rw [List.getElem?_set_ne q]; exact h5⟩
  dis := fun j k b e1 e2 h1 h2 h3 h4 h5 h6 h7 => by
    by_cases q1 : i = j
    · have q2 : i ≠ k := fun q => h3 (q1.symm.trans q)
      subst q1
      have hl : i < σ.length := by
        have := (List.getElem?_eq_some_iff.mp h6).1
        rwa [List.length_set] at this
      rw [List.getElem?_set_self hl] at h6
      rw [List.getElem?_set_ne q2] at h5 h7
      cases h6
      exact hO k e2 h5 h2 h7
    · by_cases q2 : i = k
      · subst q2
        have hl : i < σ.length := by
          have := (List.getElem?_eq_some_iff.mp h7).1
          rwa [List.length_set] at this
        rw [List.getElem?_set_self hl] at h7
        rw [List.getElem?_set_ne q1] at h4 h6
        cases h7
        exact hO j e1 h4 h1 h6
      · rw [List.getElem?_set_ne q1] at h4 h6
        rw [List.getElem?_set_ne q2] at h5 h7
        exact E.dis j k b e1 e2 h1 h2 h3 h4 h5 h6 h7
  res := E.res
  bs := E.bs
theorem sqT_put {o o' : HO} {b : Addr} {xs : List V} (ha : H a = some o) (ho : ∀ ys u, o ≠ .tup ys ∧ o ≠ .frz u (.tup ys)) (h : SqT K H b xs) : SqT K (upd H a o') b xs := by
  rcases h with (h | ⟨u, h⟩) | h
  · refine .inl (.inl ?_)
    rw [upd_ne (fun z => by rw [z, ha] at h; cases h; exact (ho xs default).1 rfl)]
    exact h
  · refine .inl (.inr ⟨u, ?_⟩)
    rw [upd_ne (fun z => by rw [z, ha] at h; cases h; exact (ho xs u).2 rfl)]
    exact h
  · exact .inr h
theorem Own.noTup {o : HO} (h : Own K A W H a d) (e : H a = some o) : ∀ ys u, o ≠ .tup ys ∧ o ≠ .frz u (.tup ys) := by
  intro ys u
  cases h with
  | lst h q => rw [h] at e; cases e; exact ⟨fun z => (by cases z), fun z => (by cases z)⟩
  | dk h q => rw [h] at e; cases e; exact ⟨fun z => (by cases z), fun z => (by cases z)⟩
  | ins _ h _ q => rw [h] at e; cases e; exact ⟨fun z => (by cases z), fun z => (by cases z)⟩
/-- an owned thing is changed -/
theorem Env.mut {o' : HO} (E : Env K A W0 H0 O W σ H ρ r) (n : Fre O i) (e : ρ[i]? = some (some d)) (s : σ[i]? = some (some (.ref a))) {d' : D} (h : Own K A W H a d → Own K A W (upd H a o') a d' ) : Env K A W0 H0 O W σ (upd H a o') (ρ.set i (some d')) r := by
  obtain ⟨b, h1, h2, h3, h4, h5⟩ := E.own i d e n
  rw [s] at h1
  cases h1
  obtain ⟨o, ho⟩ : ∃ o, H a = some o := by
    cases q : H a with
    | none => exact absurd q h2.isSome
    | some o => exact ⟨o, rfl⟩
  have tp : ∀ b xs, SqT K H b xs → SqT K (upd H a o') b xs := fun b xs q => sqT_put ho (h2.noTup ho) q
  have fr : ∀ b o, b ≠ a → H b = some o → (upd H a o') b = some o := fun b o q z => by rw [upd_ne q]; exact z
  have wl : ∀ b o, W b → H b = some o → (upd H a o') b = some o := fun b o q z => fr b o (fun y => h3 (by rw [← y]; exact q)) z
  have hil : i < ρ.length := (List.getElem?_eq_some_iff.mp e).1
  refine { len := by rw [List.length_set]; exact E.len, var := fun j e1 q1 q2 => ?_, own := fun j e1 q1 q2 => ?_, rdo := fun j e1 q1 q2 => ?_, rin := E.rin, bor := fun j b q => ?_, dis := fun j k b e1 e2 q1 q2 q3 q4 q5 q6 q7 => ?_, res := ?_, bs := ?_ }
  · have q : i ≠ j := fun q => q2 (by rw [← q]; exact n.1)
    rw [List.getElem?_set_ne q] at q1
    obtain ⟨v, z1, z2⟩ := E.var j e1 q1 q2
    exact ⟨v, z1, z2.mov (fun _ e => e) wl tp⟩
  · by_cases q : i = j
    · subst q
      rw [List.getElem?_set_self hil] at q1
      cases q1
      exact ⟨a, s, h h2, h3, h4, h5⟩
    · rw [List.getElem?_set_ne q] at q1
      obtain ⟨b, z1, z2, z3, z4, z5⟩ := E.own j e1 q1 q2
      refine ⟨b, z1, z2.mov (fun _ e => e) wl tp fun o y => fr b o (fun y => ?_) y, z3, z4, z5⟩
      subst y
      exact E.dis i j b d e1 n q2 q e q1 s z1
  · have q : i ≠ j := fun q => n.2 (by rw [q]; exact q2)
    rw [List.getElem?_set_ne q] at q1
    obtain ⟨v, z1, z2, hk⟩ := E.rdo j e1 q1 q2
    refine ⟨v, z1, ?_, hk⟩
    rcases z2 with z2 | ⟨b, z2, z3, z4, z5⟩
    · exact .inl (z2.mov (fun _ e => e) wl tp)
    · exact .inr ⟨b, z2, z3.mov (fun _ e => e) wl tp fun o y => fr b o (fun y => z5 (by rw [y]; exact h5)) y, z4, z5⟩
  · obtain ⟨y1, y2, y3, y4, dd, y5⟩ := E.bor j b q
    refine ⟨y1, y2, y3, y4, ?_⟩
    by_cases q : i = j
    · subst q
      exact ⟨d', List.getElem?_set_self hil⟩
    · exact ⟨dd, by rw [List.getElem?_set_ne q]; exact y5⟩
  · have g : ∀ {j : Nat} {e1 : D}, (ρ.set i (some d'))[j]? = some (some e1) → ∃ e, ρ[j]? = some (some e) := fun {j e1} q => by
      by_cases y : i = j
      · subst y; exact ⟨d, e⟩
      · rw [List.getElem?_set_ne y] at q; exact ⟨_, q⟩
    obtain ⟨_, y4⟩ := g q4
    obtain ⟨_, y5⟩ := g q5
    exact E.dis j k b _ _ q1 q2 q3 y4 y5 q6 q7
  · refine ⟨?_, E.res.sc.mov (fun sk o q => fr _ o (fun y => h4 (by rw [← y]; exact .inr (.inr (.inr (.inr ⟨sk, rfl⟩))))) q), E.res.sl, E.res.sg, E.res.le, fun n b dd e1 e2 => (E.res.ce n b dd e1 e2).mov (fun _ e => e) wl tp fun o y => fr b o (fun y => h4 ?_) y, E.res.nd, E.res.na, E.res.av, fun b w y => E.res.wa b w (by
        rw [upd_ne (fun y => h3 (by rw [← y]; exact w))] at y
        exact y)⟩
    · obtain ⟨⟨l, t, g0, g1, g2⟩, ⟨ns, g3⟩, ⟨ms, g4⟩, g5⟩ := E.res.dr
      refine ⟨⟨l, t, g0, g1, fr _ _ (fun y => h4 (.inl y.symm)) g2⟩, ⟨ns, fr _ _ (fun y => h4 (.inr (.inl y.symm))) g3⟩, ⟨ms, fr _ _ (fun y => h4 (.inr (.inr (.inl y.symm)))) g4⟩, g5⟩
    · rw [← y]
      exact .inr (.inr (.inr (.inl (List.mem_of_getElem? e1))))
  · refine ⟨fun b o q z => ?_, fun b q => ?_, fun b xs q => tp b xs (E.bs.tp b xs q), E.bs.wk, E.bs.wn⟩
    · have y : b ≠ a := fun y => by rw [y, h5] at z; cases z
      exact fr b o y (E.bs.fr b o q z)
    · by_cases y : b = a
      · rw [y]; exact h5
      · rw [upd_ne y] at q
        exact E.bs.al b q
theorem Fre.filter {j : Nat} (hr : Rep O i) (h : Fre (O.filter (· ≠ i)) j) : Fre O j ∧ j ≠ i := by
  obtain ⟨h1, h2⟩ := h
  obtain ⟨h3, h4⟩ := List.mem_filter.mp h1
  exact ⟨⟨h3, fun z => h2 (List.mem_filter.mpr ⟨z, by have := hr.2.2; simp; omega⟩)⟩, by simpa using h4⟩
theorem Fre.toF {j : Nat} (h : Fre O j) (n : j ≠ i) : Fre (O.filter (· ≠ i)) j := ⟨List.mem_filter.mpr ⟨h.1, by simpa using n⟩, fun z => h.2 (List.mem_filter.mp z).1⟩
/-- a slot is forgotten -/
theorem Env.drop (E : Env K A W0 H0 O W σ H ρ r) (i : Nat) (o : Option V) (nr : Rep O i) : Env K A W0 H0 O W (σ.set i o) H (ρ.set i none) r where
  len := by rw [List.length_set, List.length_set]; exact E.len
  var := fun j e h1 h2 => by
    have q : i ≠ j := fun q => by
      subst q
      have hl : i < ρ.length := by
        have := (List.getElem?_eq_some_iff.mp h1).1
        rwa [List.length_set] at this
      rw [List.getElem?_set_self hl] at h1
      cases h1
    rw [List.getElem?_set_ne q] at h1 ⊢
    exact E.var j e h1 h2
  own := fun j e h1 h2 => by
    have q : i ≠ j := fun q => by
      subst q
      have hl : i < ρ.length := by
        have := (List.getElem?_eq_some_iff.mp h1).1
        rwa [List.length_set] at this
      rw [List.getElem?_set_self hl] at h1
      cases h1
    rw [List.getElem?_set_ne q] at h1 ⊢
    exact E.own j e h1 h2
  rdo := fun j e h1 h2 => by
    have q : i ≠ j := fun q => nr.1 (by rw [q]; exact h2)
    rw [List.getElem?_set_ne q] at h1 ⊢
    exact E.rdo j e h1 h2
  rin := E.rin
  bor := fun j b h => by
    obtain ⟨h1, h2, h3, h4, d, h5⟩ := E.bor j b h
    have q : i ≠ j := fun q => nr.2.1 (by rw [q]; exact h2)
    exact ⟨h1, h2, h3, by rw [List.getElem?_set_ne q]; exact h4, d, by rw [List.getElem?_set_ne q]; exact h5⟩
  dis := fun j k a e1 e2 h1 h2 h3 h4 h5 h6 h7 => by
    have g : ∀ {j : Nat} {e1 : D}, (ρ.set i none)[j]? = some (some e1) → i ≠ j ∧ ρ[j]? = some (some e1) := fun {j e1} y => by
      have q : i ≠ j := fun q => by
        subst q
        have hl : i < ρ.length := by
          have := (List.getElem?_eq_some_iff.mp y).1
          rwa [List.length_set] at this
        rw [List.getElem?_set_self hl] at y
        cases y
      rw [List.getElem?_set_ne q] at y
      exact ⟨q, y⟩
    obtain ⟨q1, h4⟩ := g h4
    obtain ⟨q2, h5⟩ := g h5
    rw [List.getElem?_set_ne q1] at h6
    rw [List.getElem?_set_ne q2] at h7
    exact E.dis j k a e1 e2 h1 h2 h3 h4 h5 h6 h7
  res := E.res
  bs := E.bs
end
end Sn
namespace Sn
open PySem PySem.Spec PyProof.Rows L2
theorem dr_new {H : Hp} {d g c p : Addr} {m : Nat} (D : Dr H d g c m) (h : H p = none) : p ≠ d ∧ p ≠ g ∧ p ≠ c := by
  obtain ⟨⟨l, t, _, _, hd⟩, ⟨gs, hg⟩, ⟨cs, hc⟩, _⟩ := D
  exact ⟨(ne_of_none hd h).symm, (ne_of_none hg h).symm, (ne_of_none hc h).symm⟩
theorem Dr.upd {H : Hp} {d g c L : Addr} {m : Nat} {o : HO} (D : Dr H d g c m) (h : L ≠ d ∧ L ≠ g ∧ L ≠ c) : Dr (L2.upd H L o) d g c m := by
  obtain ⟨⟨l, t, h0, h1, h2⟩, ⟨a, h3⟩, ⟨b, h4⟩, h5⟩ := D
  exact ⟨⟨l, t, h0, h1, by rw [upd_ne h.1.symm]; exact h2⟩, ⟨a, by rw [upd_ne h.2.1.symm]; exact h3⟩, ⟨b, by rw [upd_ne h.2.2.symm]; exact h4⟩, h5⟩
theorem Mv.put {d g L : Addr} {H H2 : Hp} {o : HO} (m : Mv d g H H2) (h : H L = none) : Mv d g H (L2.upd H2 L o) := fun b x h1 h2 e => by
  rw [upd_ne (ne_of_none e h)]
  exact m _ _ h1 h2 e
end Sn
namespace Sn
open PySem PySem.Spec PyProof.Rows L2
/-- v is the data dd, whatever is drawn -/
def Sd (d g : Addr) (H : Hp) (v : V) (dd : PyData) : Prop := ∀ H', Mv d g H H' → Dh H' v dd
def SdA (d g : Addr) (H : Hp) (vs : List V) (ds : List PyData) : Prop := ∀ H', Mv d g H H' → DhAll H' vs ds
section
variable {d g c : Addr} {H H' : Hp} {m : Nat} {v : V} {vs : List V} {dd : PyData} {ds : List PyData} {K : PySem.W.Frag}
theorem Sd.mv (h : Sd d g H v dd) (m : Mv d g H H') : Sd d g H' v dd := fun H2 m2 => h H2 (m.trans m2)
theorem Sd.same (h : Sd d g H v dd) (s : Same H H') : Sd d g H' v dd := h.mv (Mv.same s)
theorem Sd.at (h : Sd d g H v dd) : Dh H v dd := h H (Mv.refl _ _ _)
theorem SdA.mv (h : SdA d g H vs ds) (m : Mv d g H H') : SdA d g H' vs ds := fun H2 m2 => h H2 (m.trans m2)
theorem SdA.same (h : SdA d g H vs ds) (s : Same H H') : SdA d g H' vs ds := h.mv (Mv.same s)
theorem SdA.at (h : SdA d g H vs ds) : DhAll H vs ds := h H (Mv.refl _ _ _)
theorem SdA.nil : SdA d g H [] [] := fun _ _ => .nil
theorem SdA.cons (h : Sd d g H v dd) (a : SdA d g H vs ds) : SdA d g H (v :: vs) (dd :: ds) := fun H' m => .cons (h H' m) (a H' m)
theorem Sd.non : Sd d g H .non .none := fun _ _ => .non
theorem Sd.bl (b : Bool) : Sd d g H (.bl b) (.bool b) := fun _ _ => .bl b
theorem Sd.int (i : Int) : Sd d g H (.int i) (.int i) := fun _ _ => .int i
theorem Sd.str (z : Str) : Sd d g H (.str z) (.str z) := fun _ _ => .str z
theorem Sd.tup {p : Addr} (D : Dr H d g c m) (hp : H p = none) (a : SdA d g H vs ds) : Sd d g (upd H p (.tup vs)) (.ref p) (.tuple ds) := fun H' mv => by
  have n := dr_new D hp
  exact .tup (mv _ _ n.1 n.2.1 upd_same) (a H' ((Mv.same (same_new hp)).trans mv))
theorem Sd.lst {p : Addr} (D : Dr H d g c m) (hp : H p = none) (a : SdA d g H vs ds) : Sd d g (upd H p (.lst vs)) (.ref p) (.list ds) := fun H' mv => by
  have n := dr_new D hp
  exact .lst (mv _ _ n.1 n.2.1 upd_same) (a H' ((Mv.same (same_new hp)).trans mv))
theorem SdA.len (a : SdA d g H vs ds) : vs.length = ds.length := a.at.len
theorem SdA.app {ws : List V} {es : List PyData} (a : SdA d g H vs ds) (b : SdA d g H ws es) : SdA d g H (vs ++ ws) (ds ++ es) := fun H' m => (a H' m).app (b H' m)
theorem SdA.take (a : SdA d g H vs ds) (n : Nat) : SdA d g H (vs.take n) (ds.take n) := fun H' m => (a H' m).take n
theorem SdA.drop (a : SdA d g H vs ds) (n : Nat) : SdA d g H (vs.drop n) (ds.drop n) := fun H' m => (a H' m).drop n
theorem SdA.get (a : SdA d g H vs ds) {i : Nat} (h : vs[i]? = some v) : ∃ dd, ds[i]? = some dd ∧ Sd d g H v dd := by
  obtain ⟨dd, e, q⟩ := a.at.get h
  refine ⟨dd, e, fun H' m => ?_⟩
  obtain ⟨d2, e2, q2⟩ := (a H' m).get h
  rw [e] at e2
  cases e2
  exact q2
/-- a cut of data -/
def cutD (ds : List PyData) (lo hi : Option Int) : List PyData := (ds.drop (HT.sIx ds.length 0 lo)).take (HT.sIx ds.length ds.length hi - HT.sIx ds.length 0 lo)
theorem SdA.cut (a : SdA d g H vs ds) (lo hi : Option Int) : SdA d g H (cutV vs lo hi) (cutD ds lo hi) := by
  unfold cutV cutD
  rw [a.len]
  exact (a.drop _).take _
end
section
variable {X : Cx}
def rNil (neg : Bool) (K : PySem.W.Frag) : R2 := fun x y H Q => ∃ a b xs, x = .ref a ∧ y = .ref b ∧ SqL K H a xs ∧ SqL K H b [] ∧ Q (.bl (if neg then !xs.isEmpty else xs.isEmpty)) H
theorem op_eqNilH {K : PySem.W.Frag} (hu : X.A.units + 64 < cLine) (hK : X.K = K := by rfl) : OpR X (compareOp .Eq) (rNil false K) := by
  subst hK
  intro pins s σ H x y v u Q I rx ry h
  obtain ⟨a, b, xs, rfl, rfl, ha, hb, q⟩ := h
  cases xs with
  | nil => exact op_eqD hu pins s σ H _ _ v u Q I rx ry ⟨_, _, .lst ha .nil, .lst hb .nil, rfl, rfl, q⟩
  | cons z r =>
    cases rx
    cases ry
    obtain ⟨its, rv, pl, _⟩ := I.list ha
    obtain ⟨jts, rw', pl', _⟩ := I.list hb
    have e1 := rv.length
    have e2 := rw'.length
    refine PySem.SeqAt.RcAt.lists_lengths pl.isList pl'.isList ?_ (by omega) _ _ _ _ ⟨.bl false, H, I, rfl, q⟩
    simp only [List.length_cons, List.length_nil] at e1 e2
    rw [List.size_toArray, List.size_toArray, ← e1, ← e2]
    simp
theorem op_neNilH {K : PySem.W.Frag} (hu : X.A.units + 64 < cLine) (hK : X.K = K := by rfl) : OpR X (compareOp .NotEq) (rNil true K) := by
  subst hK
  intro pins s σ H x y v u Q I rx ry h
  obtain ⟨a, b, xs, rfl, rfl, ha, hb, q⟩ := h
  cases xs with
  | nil => exact op_neD hu pins s σ H _ _ v u Q I rx ry ⟨_, _, .lst ha .nil, .lst hb .nil, rfl, rfl, q⟩
  | cons z r =>
    cases rx
    cases ry
    obtain ⟨its, rv, pl, _⟩ := I.list ha
    obtain ⟨jts, rw', pl', _⟩ := I.list hb
    have e1 := rv.length
    have e2 := rw'.length
    refine SeqAt.RcNeAt.lists_lengths pl.isList pl'.isList ?_ (by omega) _ _ _ _ ⟨.bl true, H, I, rfl, q⟩
    simp only [List.length_cons, List.length_nil] at e1 e2
    rw [List.size_toArray, List.size_toArray, ← e1, ← e2]
    simp
end
end Sn
namespace Sn
open PySem PySem.Spec PyProof.Rows L2
abbrev VT := En → Rs → (D → Rs → Prop) → Prop
abbrev VTT := En → Rs → (Bool → Rs → Prop) → Prop
abbrev VTA := En → Rs → (List D → Rs → Prop) → Prop
theorem PE.imp {X : Cx} {e : Expr} {t t' : TE} (h : PE X e t) (i : ∀ σ H Q, t' σ H Q → t σ H Q) : PE X e t' := ⟨fun pins s σ H Q I q => h.run pins s σ H Q I (i σ H Q q)⟩
theorem PT.imp {X : Cx} {e : Expr} {t t' : TT} (h : PT X e t) (i : ∀ σ H Q, t' σ H Q → t σ H Q) : PT X e t' := ⟨fun pins s σ H Q I q => h.run pins s σ H Q I (i σ H Q q)⟩
theorem PW.imp {X : Cx} {e : Expr} {t t' : TT} (h : PW X e t) (i : ∀ σ H Q, t' σ H Q → t σ H Q) : PW X e t' := ⟨fun wh pins s σ H Q I q => h.run wh pins s σ H Q I (i σ H Q q)⟩
theorem PA.imp {X : Cx} {e : List Expr} {t t' : TA} (h : PA X e t) (i : ∀ σ H Q, t' σ H Q → t σ H Q) : PA X e t' := ⟨fun pos pins s σ H Q I q => h.run pos pins s σ H Q I (i σ H Q q)⟩
theorem PS.imp {X : Cx} {e : Stmt} {t t' : TS} (h : PS X e t) (i : ∀ D σ H, t' D σ H → t D σ H) : PS X e t' := ⟨fun pins s σ H D I q => h.run pins s σ H D I (i D σ H q)⟩
theorem PSs.imp {X : Cx} {e : List Stmt} {t t' : TS} (h : PSs X e t) (i : ∀ D σ H, t' D σ H → t D σ H) : PSs X e t' := ⟨fun pins s σ H D I q => h.run pins s σ H D I (i D σ H q)⟩
theorem OpR.or {X : Cx} {f : Value → Value → Sem Value} {r r' : R2} (h : OpR X f r) (h' : OpR X f r') : OpR X f (fun x y H Q => r x y H Q ∨ r' x y H Q) := by
  intro pins s σ H x y v u Q I rx ry q
  rcases q with q | q
  · exact h pins s σ H x y v u Q I rx ry q
  · exact h' pins s σ H x y v u Q I rx ry q
theorem CallR.or {X : Cx} {f : Value} {r r' : List V → Hp → VK → Prop} (h : CallR X f r) (h' : CallR X f r') : CallR X f (fun x H Q => r x H Q ∨ r' x H Q) := by
  intro pins s σ H x v Q I rx q
  rcases q with q | q
  · exact h pins s σ H x v Q I rx q
  · exact h' pins s σ H x v Q I rx q
abbrev Mode := PySem.W.Frag → Amb → Hp → (Addr → Prop) → Hp → V → D → Prop
def isMut : D → Bool
  | .list _ => true
  | .dict _ => true
  | _ => false
def mF : Mode := fun K A _ W H v d => Dw K A W H v d
def mB : Mode := fun K A _ W H v d => Dw K A W H v d ∨ ∃ a, v = .ref a ∧ OwnL K A W H a d ∧ ¬ A.U a
def mL : Mode := fun K A Hs W H v d => (isMut d = true ∧ ∃ a, v = .ref a ∧ Own K A W H a d ∧ ¬ W a ∧ ¬ A.U a ∧ Hs a = none) ∨ (isMut d = false ∧ Dw K A W H v d)
section
variable {K : PySem.W.Frag} {A : Amb} {W0 W W' W2 : Addr → Prop} {H0 Hs H1 H H' H2 : Hp} {O : List Nat} {σ : L2.St} {ρ : En} {r r' : Rs} {v : V} {d : D} {i : Nat} {a : Addr}
theorem mF.st (h : mF K A Hs W H v d) (x : Ext K A W H W' H') (av : ∀ a, W a → ¬ A.U a) : mF K A Hs W' H' v d := Dw.ext h x av
theorem mB.st (h : mB K A Hs W H v d) (x : Ext K A W H W' H') (av : ∀ a, W a → ¬ A.U a) : mB K A Hs W' H' v d := by
  rcases h with h | ⟨a, e, h, u⟩
  · exact .inl (h.ext x av)
  · exact .inr ⟨a, e, h.ext x av fun o q => x.fr a o u q, u⟩
theorem mL.st (h : mL K A Hs W H v d) (x : Ext K A W H W' H') (av : ∀ a, W a → ¬ A.U a) : mL K A Hs W' H' v d := by
  rcases h with ⟨m, a, e, h, w, u, n⟩ | ⟨m, h⟩
  · refine .inl ⟨m, a, e, h.ext x av fun o q => x.fr a o u q, fun z => ?_, u, n⟩
    rcases x.wn a z with z | z
    · exact w z
    · exact h.isSome z
  · exact .inr ⟨m, h.ext x av⟩
theorem mL.bk (h : mL K A H1 W H v d) (b : ∀ a, H1 a = none → Hs a = none) : mL K A Hs W H v d := by
  rcases h with ⟨m, a, e, h, w, u, n⟩ | ⟨m, h⟩
  · exact .inl ⟨m, a, e, h, w, u, b a n⟩
  · exact .inr ⟨m, h⟩
/-- a mode that is kept and goes back to an earlier start -/
structure GoodM (M : Mode) : Prop where
  st : ∀ {K : PySem.W.Frag} {A : Amb} {W W' : Addr → Prop} {Hs H H' : Hp} {v : V} {d : D}, M K A Hs W H v d → Ext K A W H W' H' → (∀ a, W a → ¬ A.U a) → M K A Hs W' H' v d
  bk : ∀ {K : PySem.W.Frag} {A : Amb} {W : Addr → Prop} {Hs H1 H : Hp} {v : V} {d : D}, M K A H1 W H v d → (∀ a, H1 a = none → Hs a = none) → M K A Hs W H v d
theorem goodF : GoodM mF := ⟨mF.st, fun h _ => h⟩
theorem goodB : GoodM mB := ⟨mB.st, fun h _ => h⟩
theorem goodL : GoodM mL := ⟨mL.st, mL.bk⟩
/-- what must hold of the names' data so that the expression gives a value of such data -/
def liftM (K : PySem.W.Frag) (O : List Nat) (M : Mode) (vt : VT) : TE := fun σ H Q => ∃ (A : Amb) (W0 : Addr → Prop) (H0 : Hp) (W : Addr → Prop) (ρ : En) (r : Rs) (Q0 : D → Rs → Prop), Env K A W0 H0 O W σ H ρ r ∧ vt ρ r Q0 ∧
  ∀ d r', Q0 d r' → ∀ v H' W', Ext K A W H W' H' → Env K A W0 H0 O W' σ H' ρ r' → M K A H W' H' v d → Q v H'
def liftT (K : PySem.W.Frag) (O : List Nat) (vt : VTT) : TT := fun σ H Q => ∃ (A : Amb) (W0 : Addr → Prop) (H0 : Hp) (W : Addr → Prop) (ρ : En) (r : Rs) (Q0 : Bool → Rs → Prop), Env K A W0 H0 O W σ H ρ r ∧ vt ρ r Q0 ∧
  ∀ b r', Q0 b r' → ∀ H' W', Ext K A W H W' H' → Env K A W0 H0 O W' σ H' ρ r' → Q b H'
inductive AllM (M : Mode) (K : PySem.W.Frag) (A : Amb) (Hs : Hp) (W : Addr → Prop) (H : Hp) : List V → List D → Prop
  | nil : AllM M K A Hs W H [] []
  | cons {v : V} {vs : List V} {d : D} {ds : List D} : M K A Hs W H v d → AllM M K A Hs W H vs ds → AllM M K A Hs W H (v :: vs) (d :: ds)
theorem AllM.len {M : Mode} : ∀ {vs : List V} {ds : List D}, AllM M K A Hs W H vs ds → vs.length = ds.length
  | _, _, .nil => rfl
  | _, _, .cons _ a => by rw [List.length_cons, List.length_cons, a.len]
theorem AllM.bk {M : Mode} (g : GoodM M) (b : ∀ a, H1 a = none → Hs a = none) : ∀ {vs : List V} {ds : List D}, AllM M K A H1 W H vs ds → AllM M K A Hs W H vs ds
  | _, _, .nil => .nil
  | _, _, .cons h a => .cons (g.bk h b) (a.bk g b)
theorem AllM.dw : ∀ {vs : List V} {ds : List D}, AllM mF K A Hs W H vs ds → DwA K A W H vs ds
  | _, _, .nil => .nil
  | _, _, .cons h a => .cons h a.dw
def liftA (K : PySem.W.Frag) (O : List Nat) (M : Mode) (va : VTA) : TA := fun σ H Q => ∃ (A : Amb) (W0 : Addr → Prop) (H0 : Hp) (W : Addr → Prop) (ρ : En) (r : Rs) (Q0 : List D → Rs → Prop), Env K A W0 H0 O W σ H ρ r ∧ va ρ r Q0 ∧
  ∀ ds r', Q0 ds r' → ∀ vs H' W', Ext K A W H W' H' → Env K A W0 H0 O W' σ H' ρ r' → AllM M K A H W' H' vs ds → Q vs H'
theorem lift_LF {vt : VT} {Q : VK} (h : liftM K O mF vt σ H Q) : liftM K O mL vt σ H Q := by
  obtain ⟨A, W0, H0, W, ρ, r, Q0, E, q, k⟩ := h
  refine ⟨A, W0, H0, W, ρ, r, Q0, E, q, fun d r' q0 v H' W' x E' m => ?_⟩
  rcases m with ⟨m, a, rfl, h, w, u, n⟩ | ⟨m, h⟩
  · exact k d r' q0 _ H' (wPlus W' a) (x.plus n) (E'.plus u h.isSome (E.h0 n) (E.fresh n)) ((h.mov (fun _ e => .inl e) (fun _ _ _ e => e) (fun _ _ e => e) fun o q => q).dw (.inr rfl))
  · exact k d r' q0 v H' W' x E' h
theorem lift_FB {vt : VT} {Q : VK} (h : liftM K O mB vt σ H Q) : liftM K O mF vt σ H Q := by
  obtain ⟨A, W0, H0, W, ρ, r, Q0, E, q, k⟩ := h
  exact ⟨A, W0, H0, W, ρ, r, Q0, E, q, fun d r' q0 v H' W' x E' m => k d r' q0 v H' W' x E' (.inl m)⟩
end
def VE (X : Cx) (O : List Nat) (e : Expr) (vt : VT) : Prop := PE X e (liftM X.K O mF vt)
def VB (X : Cx) (O : List Nat) (e : Expr) (vt : VT) : Prop := PE X e (liftM X.K O mB vt)
def VL (X : Cx) (O : List Nat) (e : Expr) (vt : VT) : Prop := PE X e (liftM X.K O mL vt)
def VTs (X : Cx) (O : List Nat) (e : Expr) (vt : VTT) : Prop := PT X e (liftT X.K O vt)
def VW (X : Cx) (O : List Nat) (e : Expr) (vt : VTT) : Prop := PW X e (liftT X.K O vt)
def VA (X : Cx) (O : List Nat) (es : List Expr) (va : VTA) : Prop := PA X es (liftA X.K O mF va)
def VAB (X : Cx) (O : List Nat) (es : List Expr) (va : VTA) : Prop := PA X es (liftA X.K O mB va)
def vVar (i : Nat) : VT := fun ρ r Q => ∃ d, ρ[i]? = some (some d) ∧ Q d r
def vC (d : D) : VT := fun _ r Q => Q d r
def vOp (f : D → D → (D → Prop) → Prop) (va vb : VT) : VT := fun ρ r Q => va ρ r fun d r1 => vb ρ r1 fun e r2 => f d e fun z => Q z r2
def vUn (f : D → (D → Prop) → Prop) (va : VT) : VT := fun ρ r Q => va ρ r fun d r1 => f d fun z => Q z r1
def vNil : VTA := fun _ r Q => Q [] r
def vCons (va : VT) (vs : VTA) : VTA := fun ρ r Q => va ρ r fun d r1 => vs ρ r1 fun ds r2 => Q (d :: ds) r2
def vTup (va : VTA) : VT := fun ρ r Q => va ρ r fun ds r1 => ds.length ≤ sizeLine ∧ Q (.tuple ds) r1
def vLst (va : VTA) : VT := fun ρ r Q => va ρ r fun ds r1 => ds.length ≤ sizeLine ∧ Q (.list ds) r1
def vCB (f : List D → (D → Prop) → Prop) (va : VTA) : VT := fun ρ r Q => va ρ r fun ds r1 => f ds fun z => Q z r1
def vIf (c : VTT) (va vb : VT) : VT := fun ρ r Q => c ρ r fun b r1 => if b = true then va ρ r1 Q else vb ρ r1 Q
def vAndV (va vb : VT) : VT := fun ρ r Q => va ρ r fun x r1 => ∃ c, x = .bool c ∧ if c = true then vb ρ r1 Q else Q (.bool false) r1
def vOrV (va vb : VT) : VT := fun ρ r Q => va ρ r fun x r1 => ∃ c, x = .bool c ∧ if c = true then Q (.bool true) r1 else vb ρ r1 Q
def vNotV (va : VT) : VT := fun ρ r Q => va ρ r fun x r1 => ∃ c, x = .bool c ∧ Q (.bool (!c)) r1
def vB (va : VT) : VTT := fun ρ r Q => va ρ r fun x r1 => ∃ c, x = .bool c ∧ Q c r1
def vAnd (va vb : VTT) : VTT := fun ρ r Q => va ρ r fun c r1 => if c = true then vb ρ r1 Q else Q false r1
def vOr (va vb : VTT) : VTT := fun ρ r Q => va ρ r fun c r1 => if c = true then Q true r1 else vb ρ r1 Q
def vNot (va : VTT) : VTT := fun ρ r Q => va ρ r fun c r1 => Q (!c) r1
section
variable {X : Cx} {O : List Nat} {e a b c : Expr} {es : List Expr} {v1 v2 v3 : VT} {vs : VTA} {c1 c2 : VTT} {pos : Pos}
theorem VL.ve (h : VL X O e v1) : VE X O e v1 := PE.imp h fun _ _ _ q => lift_LF q
theorem VE.vb (h : VE X O e v1) : VB X O e v1 := PE.imp h fun _ _ _ q => lift_FB q
theorem VL.vb (h : VL X O e v1) : VB X O e v1 := h.ve.vb
theorem ve_var {i : Nat} (h : PE X e (tVar i)) (hi : i ∉ O := by decide) : VE X O e (vVar i) := PE.imp h fun σ H Q q => by
  obtain ⟨A, W0, H0, W, ρ, r, Q0, E, ⟨d, hd, q⟩, k⟩ := q
  obtain ⟨v, h1, h2⟩ := E.var i d hd hi
  exact ⟨v, h1, k d r q v H W .refl E h2⟩
theorem vb_var {i : Nat} (h : PE X e (tVar i)) : VB X O e (vVar i) := PE.imp h fun σ H Q q => by
  obtain ⟨A, W0, H0, W, ρ, r, Q0, E, ⟨d, hd, q⟩, k⟩ := q
  by_cases h0 : i + 2000 ∈ O
  · obtain ⟨v, h1, h2, _⟩ := E.rdo i d hd h0
    refine ⟨v, h1, k d r q v H W .refl E ?_⟩
    rcases h2 with h2 | ⟨a, e, h2, h3, _⟩
    · exact .inl h2
    · exact .inr ⟨a, e, h2, h3⟩
  by_cases hi : i ∈ O
  · obtain ⟨a, h1, h2, h3, h4, _⟩ := E.own i d hd ⟨hi, h0⟩
    exact ⟨_, h1, k d r q _ H W .refl E (.inr ⟨a, rfl, .own h2, h4⟩)⟩
  · obtain ⟨v, h1, h2⟩ := E.var i d hd hi
    exact ⟨v, h1, k d r q v H W .refl E (.inl h2)⟩
/-- a value that needs no heap -/
theorem ve_c {v : V} {d : D} (h : PE X e (tC v)) (hd : ∀ A W H, Dw X.K A W H v d) (m : isMut d = false) : VL X O e (vC d) := PE.imp h fun σ H Q q => by
  obtain ⟨A, W0, H0, W, ρ, r, Q0, E, q, k⟩ := q
  exact k d r q v H W .refl E (.inr ⟨m, hd _ _ _⟩)
theorem ve_cF {v : V} {d : D} (h : PE X e (tC v)) (hd : ∀ A W H, Dw X.K A W H v d) : VE X O e (vC d) := PE.imp h fun σ H Q q => by
  obtain ⟨A, W0, H0, W, ρ, r, Q0, E, q, k⟩ := q
  exact k d r q v H W .refl E (hd _ _ _)
theorem ve_int {i j pos} : VL X O (.Constant (.int i) j pos) (vC (.int i)) := ve_c pe_int (fun _ _ _ => .int i) rfl
theorem ve_bl {b j pos} : VL X O (.Constant (.bool b) j pos) (vC (.bool b)) := ve_c pe_bl (fun _ _ _ => .bl b) rfl
theorem ve_non {j pos} : VL X O (.Constant .none j pos) (vC .none) := ve_c pe_non (fun _ _ _ => .non) rfl
theorem ve_str {z j pos} : VL X O (.Constant (.str z) j pos) (vC (.str z)) := ve_c pe_str (fun _ _ _ => .str z) rfl
theorem vm_nil {M : Mode} : PA X [] (liftA X.K O M vNil) := PA.imp pa_nil fun σ H Q q => by
  obtain ⟨A, W0, H0, W, ρ, r, Q0, E, q, k⟩ := q
  exact k [] r q [] H W .refl E .nil
theorem vm_cons {M : Mode} (g : GoodM M) (h : PE X e (liftM X.K O M v1)) (hs : PA X es (liftA X.K O M vs)) (hst : starEach (e :: es) X.env = (false, eval e X.env) :: starEach es X.env) : PA X (e :: es) (liftA X.K O M (vCons v1 vs)) := PA.imp (pa_cons h hs hst) fun σ H Q q => by
  obtain ⟨A, W0, H0, W, ρ, r, Q0, E, q, k⟩ := q
  refine ⟨A, W0, H0, W, ρ, r, _, E, q, fun d r1 q1 v H1 W1 x1 E1 m1 => ?_⟩
  refine ⟨A, W0, H0, W1, ρ, r1, _, E1, q1, fun ds r2 q2 us H2 W2 x2 E2 m2 => ?_⟩
  exact k (d :: ds) r2 q2 (v :: us) H2 W2 (x1.trans x2) E2 (.cons (g.st m1 x2 E1.res.av) (m2.bk g x1.al))
theorem va_nil : VA X O [] vNil := vm_nil
theorem vab_nil : VAB X O [] vNil := vm_nil
theorem va_cons (h : VE X O e v1) (hs : VA X O es vs) (hst : starEach (e :: es) X.env = (false, eval e X.env) :: starEach es X.env := by rfl) : VA X O (e :: es) (vCons v1 vs) := vm_cons goodF h hs hst
theorem vab_cons (h : VB X O e v1) (hs : VAB X O es vs) (hst : starEach (e :: es) X.env = (false, eval e X.env) :: starEach es X.env := by rfl) : VAB X O (e :: es) (vCons v1 vs) := vm_cons goodB h hs hst
theorem ve_tup {x1} (hs : VA X O es vs) : VL X O (.Tuple es x1 pos) (vTup vs) := PE.imp (pe_tup hs) fun σ H Q q => by
  obtain ⟨A, W0, H0, W, ρ, r, Q0, E, q, k⟩ := q
  refine ⟨A, W0, H0, W, ρ, r, _, E, q, fun ds r1 q1 us H1 W1 x1 E1 m1 => ?_⟩
  refine ⟨by rw [m1.len]; exact q1.1, fun p hp => ?_⟩
  exact k _ r1 q1.2 _ _ W1 (x1.trans (Ext.new hp)) (E1.new hp) (.inr ⟨rfl, .tup (SqT.of upd_same) (m1.dw.ext (Ext.new hp) E1.res.av)⟩)
theorem ve_lst (hs : VA X O es vs) : VL X O (.List es pos) (vLst vs) := PE.imp (pe_lst hs) fun σ H Q q => by
  obtain ⟨A, W0, H0, W, ρ, r, Q0, E, q, k⟩ := q
  refine ⟨A, W0, H0, W, ρ, r, _, E, q, fun ds r1 q1 us H1 W1 x1 E1 m1 => ?_⟩
  refine ⟨by rw [m1.len]; exact q1.1, fun p hp => ?_⟩
  refine k _ r1 q1.2 _ _ W1 (x1.trans (Ext.new hp)) (E1.new hp) (.inl ⟨rfl, p, rfl, .lst upd_same (m1.dw.ext (Ext.new hp) E1.res.av), E1.nw hp, E1.res.uNew hp, x1.al p hp⟩)
end
section
variable {K : PySem.W.Frag} {A : Amb} {W : Addr → Prop} {Hs H : Hp} {v : V} {d : D}
theorem OwnL.cas {a : Addr} {P : Prop} (h : OwnL K A W H a d) (h1 : Own K A W H a d → P) (h2 : ∀ o xs ds, d = .dict ds → H a = some (.frz o (.dK xs)) → DwK K A W H xs ds → P) : P := by
  cases h with
  | own h => exact h1 h
  | lk h q => exact h2 _ _ _ rfl h q
theorem mB.int {i : Int} (h : mB K A Hs W H v (.int i)) : v = .int i := by
  rcases h with h | ⟨a, _, h, _⟩
  · cases h; rfl
  · exact h.cas (fun h => by cases h) fun _ _ _ e => by cases e
theorem mB.str {z : Str} (h : mB K A Hs W H v (.str z)) : v = .str z := by
  rcases h with h | ⟨a, _, h, _⟩
  · cases h; rfl
  · exact h.cas (fun h => by cases h) fun _ _ _ e => by cases e
theorem mB.bl {b : Bool} (h : mB K A Hs W H v (.bool b)) : v = .bl b := by
  rcases h with h | ⟨a, _, h, _⟩
  · cases h; rfl
  · exact h.cas (fun h => by cases h) fun _ _ _ e => by cases e
theorem mB.non (h : mB K A Hs W H v .none) : v = .non := by
  rcases h with h | ⟨a, _, h, _⟩
  · cases h; rfl
  · exact h.cas (fun h => by cases h) fun _ _ _ e => by cases e
theorem mB.lst {ds : List D} (h : mB K A Hs W H v (.list ds)) : ∃ a xs, v = .ref a ∧ H a = some (.lst xs) ∧ DwA K A W H xs ds := by
  rcases h with h | ⟨a, rfl, h, _⟩
  · cases h with
    | lst w h q => exact ⟨_, _, rfl, h, q⟩
  · refine h.cas (fun h => ?_) fun _ _ _ e => by cases e
    cases h with
    | lst h q => exact ⟨_, _, rfl, h, q⟩
theorem mB.tup {ds : List D} (h : mB K A Hs W H v (.tuple ds)) : ∃ a xs, v = .ref a ∧ SqT K H a xs ∧ DwA K A W H xs ds := by
  rcases h with h | ⟨a, _, h, _⟩
  · cases h with
    | tup h q => exact ⟨_, _, rfl, h, q⟩
  · exact h.cas (fun h => by cases h) fun _ _ _ e => by cases e
theorem mB.dic {ds : List (D × D)} (h : mB K A Hs W H v (.dict ds)) (n : isTok ds = false) : ∃ a xs, v = .ref a ∧ IsK H a xs ∧ DwK K A W H xs ds := by
  rcases h with h | ⟨a, rfl, h, _⟩
  · cases h with
    | dk w h q => exact ⟨_, _, rfl, h, q⟩
    | st => cases n
    | scr => cases n
    | cell => cases n
    | obj => cases n
    | ins => cases n
  · refine h.cas (fun h => ?_) fun _ _ _ e h q => ?_
    · cases h with
      | dk h q => exact ⟨_, _, rfl, .inl h, q⟩
      | ins => cases n
    · cases e
      exact ⟨_, _, rfl, .inr ⟨_, h⟩, q⟩
theorem mB.isN (h : mB K A Hs W H v d) : v = .non ↔ d = .none := by
  rcases h with h | ⟨a, rfl, h, _⟩
  · cases h <;> simp [dSt, dCell, dRef, dScr, dIns]
  · refine h.cas (fun h => ?_) fun _ _ _ e _ _ => by rw [e]; simp
    cases h <;> simp [dIns]
def flatD : D → Bool
  | .none => true
  | .bool _ => true
  | .int _ => true
  | .str _ => true
  | _ => false
theorem Dw.flat (h : Dw K A W H v d) (f : flatD d = true) : flatV v = true := by cases h <;> first | rfl | cases f
theorem mB.flat (h : mB K A Hs W H v d) (f : flatD d = true) : flatV v = true := by
  rcases h with h | ⟨a, _, h, _⟩
  · exact h.flat f
  · exact h.cas (fun h => by cases h <;> cases f) fun _ _ _ e => by rw [e] at f; cases f
theorem flat_eqv {x y : V} {d e : D} {Hs1 : Hp} (h : mB K A Hs W H x d) (h' : mB K A Hs1 W H y e) (f : flatD d = true) (f' : flatD e = true) : eqV x y = PyData.eqv d e := by
  have g : ∀ {v : V} {d : D} {Hs : Hp}, mB K A Hs W H v d → flatD d = true → Dw K A W H v d := fun {v d Hs} h f => by
    rcases h with h | ⟨a, _, h, _⟩
    · exact h
    · exact h.cas (fun h => by cases h <;> cases f) fun _ _ _ e => by rw [e] at f; cases f
  have h := g h f
  have h' := g h' f'
  cases h <;> first | (cases f; done) | skip
  all_goals cases h' <;> first | (cases f'; done) | rfl
mutual
theorem Dw.dp : ∀ {v : V} {d : D}, Dw K A W H v d → d.canLay0 = true → Dp K H v d
  | _, _, .non, _ => .non
  | _, _, .bl b, _ => .bl b
  | _, _, .int i, _ => .int i
  | _, _, .str x, _ => .str x
  | _, _, .lst w h a, e => .lst (.inl (.inl h)) (DwA.dp a (by simpa [PyData.canLay0] using e))
  | _, _, .tup h a, e => .tup h (DwA.dp a (by simpa [PyData.canLay0] using e))
  | _, _, .dk w h a, e => by simp [PyData.canLay0] at e
  | _, _, .st, e => by simp [dSt, PyData.canLay0] at e
  | _, _, .scr, e => by simp [dScr, PyData.canLay0] at e
  | _, _, .cell h, e => by simp [dCell, PyData.canLay0] at e
  | _, _, .obj a, e => by simp [dRef, PyData.canLay0] at e
  | _, _, .ins _ _ _ _ _, e => by simp [dIns, PyData.canLay0] at e
theorem DwA.dp : ∀ {vs : List V} {ds : List D}, DwA K A W H vs ds → PyData.canLayAll0 ds = true → DpAll K H vs ds
  | _, _, .nil, _ => .nil
  | _, _, .cons h a, e => .cons (Dw.dp h (by simp only [PyData.canLayAll0, Bool.and_eq_true] at e; exact e.1)) (DwA.dp a (by simp only [PyData.canLayAll0, Bool.and_eq_true] at e; exact e.2))
end
theorem mB.dp (h : mB K A Hs W H v d) (e : SeqAt.shaped d = true) : Dp K H v d := by
  have e : d.canLay0 = true := by simp only [SeqAt.shaped, Bool.and_eq_true] at e; exact e.1
  rcases h with h | ⟨a, rfl, h, _⟩
  · exact h.dp e
  · refine h.cas (fun g => ?_) fun _ _ _ z _ _ => by rw [z] at e; simp [PyData.canLay0] at e
    clear h
    cases g with
    | lst h q => exact .lst (.inl (.inl h)) (q.dp (by simpa [PyData.canLay0] using e))
    | dk h q => simp [PyData.canLay0] at e
    | ins _ _ _ _ => simp [dIns, PyData.canLay0] at e
end
def dI0 (g : Int → Int → D) : D → D → (D → Prop) → Prop
  | .int i, .int j, Q => Q (g i j)
  | _, _, _ => False
def dAdd : D → D → (D → Prop) → Prop
  | .int i, .int j, Q => Q (.int (i + j))
  | .str x, .str y, Q => x.length + y.length ≤ sizeLine ∧ Q (.str (x ++ y))
  | .list x, .list y, Q => x.length + y.length ≤ sizeLine ∧ Q (.list (x ++ y))
  | .tuple x, .tuple y, Q => x.length + y.length ≤ sizeLine ∧ Q (.tuple (x ++ y))
  | _, _, _ => False
def scalD : D → D → Bool
  | .int _, .bool _ => false
  | .bool _, .int _ => false
  | d, e => flatD d && flatD e
def dEq (neg : Bool) (d e : D) (Q : D → Prop) : Prop := ((SeqAt.shaped d = true ∧ SeqAt.shaped e = true) ∨ scalD d e = true ∨ (∃ ds, d = .list ds ∧ e = .list [])) ∧ Q (.bool (if neg = true then !PyData.eqv d e else PyData.eqv d e))
theorem scal_of {K : PySem.W.Frag} {A : Amb} {W : Addr → Prop} {Hs Hs1 H : Hp} {x y : V} {d e : D} (h : mB K A Hs W H x d) (h' : mB K A Hs1 W H y e) (s : scalD d e = true) : scal x y = true ∧ decide (x = y) = PyData.eqv d e := by
  have g : ∀ {v : V} {d : D} {Hs : Hp}, mB K A Hs W H v d → flatD d = true → Dw K A W H v d := fun {v d Hs} h f => by
    rcases h with h | ⟨a, _, h, _⟩
    · exact h
    · exact h.cas (fun h => by cases h <;> cases f) fun _ _ _ e => by rw [e] at f; cases f
  have f : flatD d = true ∧ flatD e = true := by
    unfold scalD at s
    split at s
    · cases s
    · cases s
    · simpa using s
  have h := g h f.1
  have h' := g h' f.2
  obtain ⟨f1, f2⟩ := f
  cases h <;> first | (cases f1; done) | skip
  all_goals cases h' <;> first | (cases f2; done) | (cases s; done) | skip
  all_goals refine ⟨rfl, ?_⟩
  all_goals simp [PyData.eqv, Bool.beq_eq_decide_eq]
def dCmp (g : Int → Int → Bool) (s : Str → Str → Bool) : D → D → (D → Prop) → Prop
  | .int i, .int j, Q => Q (.bool (g i j))
  | .str x, .str y, Q => Q (.bool (s x y))
  | _, _, _ => False
def inD (d : D) (ds : List D) : Bool := ds.any fun z => PyData.eqv z d
def dIn (neg : Bool) (d : D) : D → (D → Prop) → Prop
  | .list ds, Q => ((flatD d = true ∧ ds.all flatD = true) ∨ (SeqAt.shaped d = true ∧ SeqAt.shaped (.list ds) = true)) ∧ Q (.bool (if neg = true then !inD d ds else inD d ds))
  | .tuple ds, Q => (flatD d = true ∧ ds.all flatD = true) ∧ Q (.bool (if neg = true then !inD d ds else inD d ds))
  | .str z, Q => ∃ y, d = .str y ∧ Q (.bool (if neg = true then !(!(Builtin.Str.occurrences z y 0 z.length 1).isEmpty) else !(Builtin.Str.occurrences z y 0 z.length 1).isEmpty))
  | _, _ => False
def isNoD : D → Bool
  | .none => true
  | _ => false
def dIsN (neg : Bool) (d e : D) (Q : D → Prop) : Prop := e = .none ∧ Q (.bool (if neg = true then !isNoD d else isNoD d))
def dIx : D → D → (D → Prop) → Prop
  | .list ds, .int i, Q => ∃ d, atI ds i = some d ∧ Q d
  | .tuple ds, .int i, Q => ∃ d, atI ds i = some d ∧ Q d
  | .str z, .int i, Q => z.length ≤ sizeLine ∧ ∃ c, atI z.cps.toList i = some c ∧ Q (.str ⟨#[c]⟩)
  | _, _, _ => False
/-- the operation by values is that by data -/
def OpSim (K : PySem.W.Frag) (M : Mode) (r : R2) (f : D → D → (D → Prop) → Prop) : Prop := ∀ (A : Amb) (W : Addr → Prop) (H : Hp) (rs : Rs) (x y : V) (d1 d2 : D) (Q0 : D → Prop) (Q : VK), Res K A W H rs → mB K A H W H x d1 → mB K A H W H y d2 → f d1 d2 Q0 →
  (∀ d, Q0 d → ∀ v H' W', Ext K A W H W' H' → Res K A W' H' rs → M K A H W' H' v d → Q v H') → r x y H Q
section
variable {X : Cx} {O : List Nat} {e a b c : Expr} {es : List Expr} {v1 v2 v3 : VT} {vs : VTA} {c1 c2 : VTT} {pos : Pos}
theorem sim_op {K : PySem.W.Frag} {M : Mode} {r : R2} {f : D → D → (D → Prop) → Prop} (g : GoodM M) (s : OpSim K M r f) {σ : L2.St} {H : Hp} {Q : VK} (q : liftM K O M (vOp f v1 v2) σ H Q) : tOp r (liftM K O mB v1) (liftM K O mB v2) σ H Q := by
  obtain ⟨A, W0, H0, W, ρ, rs, Q0, E, q, k⟩ := q
  refine ⟨A, W0, H0, W, ρ, rs, _, E, q, fun d r1 q1 v H1 W1 x1 E1 m1 => ?_⟩
  refine ⟨A, W0, H0, W1, ρ, r1, _, E1, q1, fun d' r2 q2 u H2 W2 x2 E2 m2 => ?_⟩
  refine s A W2 H2 r2 v u d d' _ Q E2.res (goodB.st m1 x2 E1.res.av) m2 q2 fun z hz w H3 W3 x3 R3 m3 => ?_
  exact k z r2 hz w H3 W3 ((x1.trans x2).trans x3) (E2.ext x3 R3) (g.bk m3 fun a h => x1.al a (x2.al a h))
theorem vl_op {op : Operator} {r : R2} {f : D → D → (D → Prop) → Prop} (ho : OpR X (binaryOp op) r) (s : OpSim X.K mL r f) (ha : VB X O a v1) (hb : VB X O b v2) : VL X O (.BinOp a op b pos) (vOp f v1 v2) := PE.imp (pe_op ho ha hb) fun _ _ _ q => sim_op goodL s q
/-- a comparison by data -/
def CmpOk (X : Cx) (op : CmpOp) (b : Expr) (f : D → D → (D → Prop) → Prop) : Prop := ∃ r, OpR X (compareOp op) r ∧ OpSim X.K mL r f ∧ behindInMarks op b = false
theorem ve_cmp {op : CmpOp} {f : D → D → (D → Prop) → Prop} (c : CmpOk X op b f) (ha : VB X O a v1) (hb : VB X O b v2) : VL X O (.Compare a [op] [b] pos) (vOp f v1 v2) := by
  obtain ⟨r, ho, s, hm⟩ := c
  exact PE.imp (pe_cmpR ho ha hb hm) fun _ _ _ q => sim_op goodL s q
theorem vt_cmp {op : CmpOp} {f : D → D → (D → Prop) → Prop} (c : CmpOk X op b f) (ha : VB X O a v1) (hb : VB X O b v2) : VTs X O (.Compare a [op] [b] pos) (vB (vOp f v1 v2)) := by
  obtain ⟨r, ho, s, hm⟩ := c
  refine PT.imp (pt_cmpR ho ha hb hm) fun σ H Q q => ?_
  obtain ⟨A, W0, H0, W, ρ, rs, Q0, E, q, k⟩ := q
  refine sim_op goodL s ⟨A, W0, H0, W, ρ, rs, _, E, q, fun d r1 q1 v H1 W1 x1 E1 m1 => ?_⟩
  obtain ⟨b, rfl, q1⟩ := q1
  rcases m1 with ⟨m, _⟩ | ⟨_, m⟩
  · cases m
  · cases m
    exact ⟨b, rfl, k b r1 q1 H1 W1 x1 E1⟩
/-- a plain result -/
theorem flat_go {K : PySem.W.Frag} {A : Amb} {W : Addr → Prop} {H : Hp} {rs : Rs} {Q0 : D → Prop} {Q : VK} {d : D} {v : V} (R : Res K A W H rs) (k : ∀ d, Q0 d → ∀ v H' W', Ext K A W H W' H' → Res K A W' H' rs → mL K A H W' H' v d → Q v H') (q : Q0 d) (m : isMut d = false) (h : Dw K A W H v d) : Q v H :=
  k d q v H W .refl R (.inr ⟨m, h⟩)
theorem new_go {K : PySem.W.Frag} {A : Amb} {W : Addr → Prop} {H : Hp} {rs : Rs} {Q0 : D → Prop} {Q : VK} {ds : List D} {xs : List V} {p : Addr} (R : Res K A W H rs) (k : ∀ d, Q0 d → ∀ v H' W', Ext K A W H W' H' → Res K A W' H' rs → mL K A H W' H' v d → Q v H') (q : Q0 (.list ds)) (h : DwA K A W H xs ds) (hp : H p = none) : Q (.ref p) (upd H p (.lst xs)) :=
  k _ q _ _ W (Ext.new hp) (R.same (same_new hp)) (.inl ⟨rfl, p, rfl, .lst upd_same (h.ext (Ext.new hp) R.av), fun w => R.wa p w hp, R.uNew hp, hp⟩)
theorem newT_go {K : PySem.W.Frag} {A : Amb} {W : Addr → Prop} {H : Hp} {rs : Rs} {Q0 : D → Prop} {Q : VK} {ds : List D} {xs : List V} {p : Addr} (R : Res K A W H rs) (k : ∀ d, Q0 d → ∀ v H' W', Ext K A W H W' H' → Res K A W' H' rs → mL K A H W' H' v d → Q v H') (q : Q0 (.tuple ds)) (h : DwA K A W H xs ds) (hp : H p = none) : Q (.ref p) (upd H p (.tup xs)) :=
  k _ q _ _ W (Ext.new hp) (R.same (same_new hp)) (.inr ⟨rfl, .tup (SqT.of upd_same) (h.ext (Ext.new hp) R.av)⟩)
theorem sim_I0 {K : PySem.W.Frag} {g : Int → Int → V} {g' : Int → Int → D} (h : ∀ i j A W H, isMut (g' i j) = false ∧ Dw K A W H (g i j) (g' i j)) : OpSim K mL (rI0 g) (dI0 g') := by
  intro A W H rs x y d1 d2 Q0 Q R m1 m2 q k
  cases d1 <;> cases d2 <;> first | exact absurd q id | skip
  exact ⟨_, _, m1.int, m2.int, flat_go R k q (h _ _ A W H).1 (h _ _ A W H).2⟩
theorem ve_add (ha : VB X O a v1) (hb : VB X O b v2) : VL X O (.BinOp a .Add b pos) (vOp dAdd v1 v2) := by
  refine vl_op (((op_add.or op_add_str).or op_cat).or op_catA) ?_ ha hb
  intro A W H rs x y d1 d2 Q0 Q R m1 m2 q k
  cases d1 <;> cases d2 <;> first | exact absurd q id | skip
  · exact .inl (.inl (.inl ⟨_, _, m1.int, m2.int, flat_go R k q rfl (.int _)⟩))
  · exact .inl (.inl (.inr ⟨_, _, m1.str, m2.str, q.1, flat_go R k q.2 rfl (.str _)⟩))
  · obtain ⟨a, xs, rfl, h1, q1⟩ := m1.lst
    obtain ⟨b, ys, rfl, h2, q2⟩ := m2.lst
    refine .inl (.inr ⟨a, b, xs, ys, rfl, rfl, h1, h2, by rw [q1.len, q2.len]; exact q.1, fun p hp => new_go R k q.2 (q1.app q2) hp⟩)
  · obtain ⟨a, xs, rfl, h1, q1⟩ := m1.tup
    obtain ⟨b, ys, rfl, h2, q2⟩ := m2.tup
    refine .inr ⟨a, b, xs, ys, rfl, rfl, h1, h2, by rw [q1.len, q2.len]; exact q.1, fun z => ?_, fun _ z => ?_, fun _ _ p hp => newT_go R k q.2 (q1.app q2) hp⟩
    · subst z
      cases q1
      exact flat_go R k q.2 rfl (.tup h2 q2)
    · subst z
      cases q2
      refine flat_go R k q.2 rfl (.tup h1 ?_)
      rw [List.append_nil]
      exact q1
theorem ve_sub (ha : VB X O a v1) (hb : VB X O b v2) : VL X O (.BinOp a .Sub b pos) (vOp (dI0 fun i j => .int (i - j)) v1 v2) := vl_op op_sub (sim_I0 fun _ _ _ _ _ => ⟨rfl, .int _⟩) ha hb
theorem sim_eq {K : PySem.W.Frag} {neg : Bool} : OpSim K mL (fun x y H Q => ((∃ d e, Dp K H x d ∧ Dp K H y e ∧ SeqAt.shaped d = true ∧ SeqAt.shaped e = true ∧ Q (.bl (if neg = true then !PyData.eqv d e else PyData.eqv d e)) H) ∨ (scal x y = true ∧ Q (.bl (if neg = true then !decide (x = y) else decide (x = y))) H)) ∨ rNil neg K x y H Q) (dEq neg) := by
  intro A W H rs x y d1 d2 Q0 Q R m1 m2 q k
  obtain ⟨q1, q⟩ := q
  rcases q1 with ⟨s1, s2⟩ | s | ⟨ds, rfl, rfl⟩
  · exact .inl (.inl ⟨d1, d2, m1.dp s1, m2.dp s2, s1, s2, flat_go R k q rfl (.bl _)⟩)
  · obtain ⟨h1, h2⟩ := scal_of m1 m2 s
    exact .inl (.inr ⟨h1, by rw [h2]; exact flat_go R k q rfl (.bl _)⟩)
  · obtain ⟨a, xs, rfl, ha, hx⟩ := m1.lst
    obtain ⟨b, ys, rfl, hb, hy⟩ := m2.lst
    cases hy
    refine .inr ⟨a, b, xs, rfl, rfl, SqL.of ha, SqL.of hb, ?_⟩
    have e : PyData.eqv (.list ds) (.list []) = xs.isEmpty := by
      cases hx <;> simp [PyData.eqv, PyData.eqvAll]
    rw [← e]
    exact flat_go R k q rfl (.bl _)
theorem cp_eq (hu : X.A.units + 64 < cLine) (hm : behindInMarks .Eq b = false := by exact nomark _) : CmpOk X .Eq b (dEq false) := ⟨_, ((op_eqD hu).or op_eq).or (op_eqNilH hu), sim_eq (neg := false), hm⟩
theorem cp_ne (hu : X.A.units + 64 < cLine) (hm : behindInMarks .NotEq b = false := by exact nomark _) : CmpOk X .NotEq b (dEq true) := ⟨_, ((op_neD hu).or op_ne).or (op_neNilH hu), sim_eq (neg := true), hm⟩
theorem sim_cmp {K : PySem.W.Frag} {g : Int → Int → Bool} {s : Str → Str → Bool} : OpSim K mL (fun x y H Q => rI0 (fun i j => .bl (g i j)) x y H Q ∨ ∃ i j, x = .str i ∧ y = .str j ∧ Q (.bl (s i j)) H) (dCmp g s) := by
  intro A W H rs x y d1 d2 Q0 Q R m1 m2 q k
  cases d1 <;> cases d2 <;> first | exact absurd q id | skip
  · exact .inl ⟨_, _, m1.int, m2.int, flat_go R k q rfl (.bl _)⟩
  · exact .inr ⟨_, _, m1.str, m2.str, flat_go R k q rfl (.bl _)⟩
theorem cp_lt (hm : behindInMarks .Lt b = false := by exact nomark _) : CmpOk X .Lt b (dCmp (fun i j => decide (i < j)) fun i j => decide (i.cps.toList < j.cps.toList)) := ⟨_, op_lt.or op_lt_str, sim_cmp, hm⟩
theorem sim_cmpI {K : PySem.W.Frag} {g : Int → Int → Bool} : OpSim K mL (rI0 fun i j => .bl (g i j)) (dI0 fun i j => .bool (g i j)) := sim_I0 fun _ _ _ _ _ => ⟨rfl, .bl _⟩
theorem cp_le (hm : behindInMarks .LtE b = false := by exact nomark _) : CmpOk X .LtE b (dI0 fun i j => .bool (decide (i ≤ j))) := ⟨_, op_le, sim_cmpI, hm⟩
theorem cp_gt (hm : behindInMarks .Gt b = false := by exact nomark _) : CmpOk X .Gt b (dI0 fun i j => .bool (decide (j < i))) := ⟨_, op_gt, sim_cmpI, hm⟩
theorem sim_isN {K : PySem.W.Frag} {neg : Bool} : OpSim K mL (fun x y H Q => y = .non ∧ Q (.bl (if neg = true then !decide (x = .non) else decide (x = .non))) H) (dIsN neg) := by
  intro A W H rs x y d1 d2 Q0 Q R m1 m2 q k
  obtain ⟨rfl, q⟩ := q
  refine ⟨m2.non, ?_⟩
  have e : decide (x = V.non) = isNoD d1 := by
    have h := m1.isN
    cases d1 with
    | none => exact decide_eq_true (h.mpr rfl)
    | _ => exact decide_eq_false fun z => by have := h.mp z; cases this
  rw [e]
  exact flat_go R k q rfl (.bl _)
theorem cp_isN (hm : behindInMarks .Is b = false := by exact nomark _) : CmpOk X .Is b (dIsN false) := ⟨_, op_isN, sim_isN (neg := false), hm⟩
theorem sim_in {K : PySem.W.Frag} {neg : Bool} : OpSim K mL (fun x y H Q => (rIn K neg x y H Q ∨ (∃ d ds, Dp K H x d ∧ Dp K H y (.list ds) ∧ SeqAt.shaped d = true ∧ SeqAt.shaped (.list ds) = true ∧ Q (.bl (if neg = true then !ds.any fun z => PyData.eqv z d else ds.any fun z => PyData.eqv z d)) H)) ∨
    ∃ i j, x = .str i ∧ y = .str j ∧ Q (.bl (if neg = true then !(!(Builtin.Str.occurrences j i 0 j.length 1).isEmpty) else !(Builtin.Str.occurrences j i 0 j.length 1).isEmpty)) H) (dIn neg) := by
  intro A W H rs x y d1 d2 Q0 Q R m1 m2 q k
  have fl : ∀ {xs : List V} {ds : List D}, DwA K A W H xs ds → ds.all flatD = true → xs.all flatV = true := by
    intro xs ds h
    induction ds generalizing xs with
    | nil => intro _; cases h; rfl
    | cons d ds ih =>
      intro f
      cases h with
      | cons h1 h2 =>
        simp only [List.all_cons, Bool.and_eq_true] at f ⊢
        exact ⟨h1.flat f.1, ih h2 f.2⟩
  have ev : ∀ {xs : List V} {ds : List D}, flatD d1 = true → DwA K A W H xs ds → ds.all flatD = true → inV x xs = inD d1 ds := by
    intro xs ds f1 h
    induction ds generalizing xs with
    | nil => intro _; cases h; rfl
    | cons d ds ih =>
      intro f
      cases h with
      | cons h1 h2 =>
        simp only [List.all_cons, Bool.and_eq_true] at f
        have := ih h2 f.2
        simp only [inV, inD, List.any_cons] at this ⊢
        rw [this, flat_eqv (Hs := H) (Hs1 := H) (.inl h1 : mB K A H W H _ d) m1 f.1 f1]
  cases d2 <;> first | exact absurd q id | skip
  · obtain ⟨y, rfl, q⟩ := q
    exact .inr ⟨_, _, m1.str, m2.str, flat_go R k q rfl (.bl _)⟩
  · obtain ⟨q1, q⟩ := q
    rcases q1 with ⟨f1, f2⟩ | ⟨f1, f2⟩
    · obtain ⟨a, xs, rfl, h1, q1⟩ := m2.lst
      refine .inl (.inl ⟨a, xs, rfl, .inl (.inl (.inl h1)), m1.flat f1, fl q1 f2, ?_⟩)
      rw [ev f1 q1 f2]
      exact flat_go R k q rfl (.bl _)
    · exact .inl (.inr ⟨_, _, m1.dp f1, m2.dp f2, f1, f2, flat_go R k q rfl (.bl _)⟩)
  · obtain ⟨⟨f1, f2⟩, q⟩ := q
    obtain ⟨a, xs, rfl, h1, q1⟩ := m2.tup
    refine .inl (.inl ⟨a, xs, rfl, .inr h1, m1.flat f1, fl q1 f2, ?_⟩)
    rw [ev f1 q1 f2]
    exact flat_go R k q rfl (.bl _)
theorem cp_in (hu : X.A.units + 65 < cLine) (hm : behindInMarks .In b = false := by rfl) : CmpOk X .In b (dIn false) := ⟨_, (op_in_seq.or (op_inD hu)).or op_in_str, sim_in (neg := false), hm⟩
theorem cp_notIn (hu : X.A.units + 65 < cLine) (hm : behindInMarks .NotIn b = false := by rfl) : CmpOk X .NotIn b (dIn true) := ⟨_, (op_notIn_seq.or (op_notInD hu)).or op_notin_str, sim_in (neg := true), hm⟩
theorem ve_ix (ha : VB X O a v1) (hb : VB X O b v2) (hs : PlainIx b := by exact fun _ _ => rfl) : VE X O (.Subscript a b pos) (vOp dIx v1 v2) := PE.imp (pe_ix ix_seq ha hb hs) fun _ _ _ q => sim_op goodF (by
  intro A W H rs x y d1 d2 Q0 Q R m1 m2 q k
  have at_ : ∀ {xs : List V} {ds : List D} {i : Int} {d : D}, DwA X.K A W H xs ds → atI ds i = some d → ∃ v, atI xs i = some v ∧ Dw X.K A W H v d := by
    intro xs ds i d h e
    unfold atI at e ⊢
    rw [h.len]
    cases hn : ixN ds.length i with
    | none => rw [hn] at e; cases e
    | some j =>
      rw [hn] at e
      exact h.get e
  cases d1 <;> cases d2 <;> first | exact absurd q id | skip
  · obtain ⟨q1, c, e, q⟩ := q
    exact .inr (.inr ⟨_, _, c, m1.str, m2.int, q1, e, k _ q _ H W .refl R (.str _)⟩)
  · obtain ⟨a, xs, rfl, h1, q1⟩ := m1.lst
    obtain ⟨d, e, q⟩ := q
    obtain ⟨v, e2, hv⟩ := at_ q1 e
    exact .inl ⟨a, xs, _, v, rfl, m2.int, .inl (.inl h1), e2, k _ q _ H W .refl R hv⟩
  · obtain ⟨a, xs, rfl, h1, q1⟩ := m1.tup
    obtain ⟨d, e, q⟩ := q
    obtain ⟨v, e2, hv⟩ := at_ q1 e
    exact .inr (.inl ⟨a, xs, _, v, rfl, m2.int, h1, e2, k _ q _ H W .refl R hv⟩)) q
end
abbrev VTO := En → Rs → (Option Int → Rs → Prop) → Prop
def vNoPart : VTO := fun _ r Q => Q none r
def vPart (v : VT) : VTO := fun ρ r Q => v ρ r fun d r1 => ∃ i, d = .int i ∧ Q (some i) r1
def liftO (K : PySem.W.Frag) (O : List Nat) (vt : VTO) : TO := fun σ H Q => ∃ (A : Amb) (W0 : Addr → Prop) (H0 : Hp) (W : Addr → Prop) (ρ : En) (r : Rs) (Q0 : Option Int → Rs → Prop), Env K A W0 H0 O W σ H ρ r ∧ vt ρ r Q0 ∧
  ∀ b r', Q0 b r' → ∀ H' W', Ext K A W H W' H' → Env K A W0 H0 O W' σ H' ρ r' → Q b H'
theorem PO.imp {X : Cx} {e : Option Expr} {t t' : TO} (h : PO X e t) (i : ∀ σ H Q, t' σ H Q → t σ H Q) : PO X e t' := ⟨fun pins s σ H Q I q => h.run pins s σ H Q I (i σ H Q q)⟩
def VO (X : Cx) (O : List Nat) (e : Option Expr) (vt : VTO) : Prop := PO X e (liftO X.K O vt)
/-- a cut of data -/
def cutL (ds : List D) (lo hi : Option Int) : List D := (ds.drop (HT.sIx ds.length 0 lo)).take (HT.sIx ds.length ds.length hi - HT.sIx ds.length 0 lo)
def dSl : D → Option Int → Option Int → (D → Prop) → Prop
  | .list ds, lo, hi, Q => Q (.list (cutL ds lo hi))
  | .tuple ds, lo, hi, Q => Q (.tuple (cutL ds lo hi))
  | .str z, lo, hi, Q => z.length ≤ sizeLine ∧ Q (.str (cutS z lo hi))
  | _, _, _, _ => False
def vSl (v : VT) (lo hi : VTO) : VT := fun ρ r Q => v ρ r fun d r1 => lo ρ r1 fun l r2 => hi ρ r2 fun u r3 => dSl d l u fun z => Q z r3
section
variable {X : Cx} {O : List Nat} {e a b c : Expr} {es : List Expr} {v1 v2 v3 : VT} {vs : VTA} {c1 c2 : VTT} {pos : Pos}
theorem vo_none : VO X O none vNoPart := PO.imp po_none fun σ H Q q => by
  obtain ⟨A, W0, H0, W, ρ, r, Q0, E, q, k⟩ := q
  exact k _ r q H W .refl E
theorem vo_some (h : VB X O e v1) : VO X O (some e) (vPart v1) := PO.imp (po_some h) fun σ H Q q => by
  obtain ⟨A, W0, H0, W, ρ, r, Q0, E, q, k⟩ := q
  refine ⟨A, W0, H0, W, ρ, r, _, E, q, fun d r1 q1 v H1 W1 x1 E1 m1 => ?_⟩
  obtain ⟨i, rfl, q1⟩ := q1
  exact ⟨i, m1.int, k _ r1 q1 H1 W1 x1 E1⟩
theorem SlR.or {r r' : V → Option Int → Option Int → Hp → VK → Prop} (h : SlR X r) (h' : SlR X r') : SlR X (fun x lo hi H Q => r x lo hi H Q ∨ r' x lo hi H Q) := by
  intro pins s σ H x v vl vu lo hi sl Q I rx hs pl pu q
  rcases q with q | q
  · exact h pins s σ H x v vl vu lo hi sl Q I rx hs pl pu q
  · exact h' pins s σ H x v vl vu lo hi sl Q I rx hs pl pu q
theorem DwA.cutL {K : PySem.W.Frag} {A : Amb} {W : Addr → Prop} {H : Hp} {xs : List V} {ds : List D} (h : DwA K A W H xs ds) (lo hi : Option Int) : DwA K A W H (cutV xs lo hi) (Sn.cutL ds lo hi) := by
  unfold cutV Sn.cutL
  rw [h.len]
  exact (h.drop _).take _
theorem ve_slice {lo hi : Option Expr} {o1 o2 : VTO} {p2 : Pos} (h : VB X O e v1) (h1 : VO X O lo o1) (h2 : VO X O hi o2) : VL X O (.Subscript e (.Slice lo hi none p2) pos) (vSl v1 o1 o2) := PE.imp (pe_slice ((sl_list.or sl_tupA).or sl_str) h h1 h2) fun σ H Q q => by
  obtain ⟨A, W0, H0, W, ρ, rs, Q0, E, q, k⟩ := q
  refine ⟨A, W0, H0, W, ρ, rs, _, E, q, fun d r1 q1 v H1 W1 x1 E1 m1 => ?_⟩
  refine ⟨A, W0, H0, W1, ρ, r1, _, E1, q1, fun l r2 q2 H2 W2 x2 E2 => ?_⟩
  refine ⟨A, W0, H0, W2, ρ, r2, _, E2, q2, fun u r3 q3 H3 W3 x3 E3 => ?_⟩
  have m3 := goodB.st (goodB.st m1 x2 E1.res.av) x3 E2.res.av
  have x := (x1.trans x2).trans x3
  have k' : ∀ d, Q0 d r3 → ∀ v H' W', Ext X.K A W3 H3 W' H' → Res X.K A W' H' r3 → mL X.K A H3 W' H' v d → Q v H' := fun d q v H' W' x4 R m => k d r3 q v H' W' (x.trans x4) (E3.ext x4 R) (m.bk x.al)
  cases d <;> first | exact absurd q3 id | skip
  · exact .inr ⟨_, m3.str, q3.1, flat_go E3.res k' q3.2 rfl (.str _)⟩
  · obtain ⟨a, xs, rfl, g1, g2⟩ := m3.lst
    exact .inl (.inl ⟨a, xs, rfl, .inl (.inl g1), fun p hp => new_go E3.res k' q3 (g2.cutL l u) hp⟩)
  · obtain ⟨a, xs, rfl, g1, g2⟩ := m3.tup
    refine .inl (.inr ⟨a, xs, rfl, g1, fun w => ?_, fun _ p hp => newT_go E3.res k' q3 (g2.cutL l u) hp⟩)
    refine flat_go E3.res k' q3 rfl (.tup g1 ?_)
    unfold cutL
    rw [g2.len] at w
    rw [w.1, w.2, List.drop_zero, Nat.sub_zero, List.take_length]
    exact g2
theorem ve_one {op} (h : VE X O a v1) : VE X O (.BoolOp op [a] pos) v1 := pe_one h
theorem ve_and {rest : List Expr} (ha : VE X O a v1) (hb : VE X O (.BoolOp .And (b :: rest) pos) v2) : VE X O (.BoolOp .And (a :: b :: rest) pos) (vAndV v1 v2) := PE.imp (pe_and ha hb) fun σ H Q q => by
  obtain ⟨A, W0, H0, W, ρ, rs, Q0, E, q, k⟩ := q
  refine ⟨A, W0, H0, W, ρ, rs, _, E, q, fun d r1 q1 v H1 W1 x1 E1 m1 => ?_⟩
  obtain ⟨c, rfl, q1⟩ := q1
  refine ⟨c, mB.bl (Hs := H) (.inl m1), ?_⟩
  cases c with
  | true => exact iteT ⟨A, W0, H0, W1, ρ, r1, _, E1, q1, fun d r2 q2 v H2 W2 x2 E2 m2 => k d r2 q2 v H2 W2 (x1.trans x2) E2 m2⟩
  | false => exact iteF (k _ r1 q1 _ H1 W1 x1 E1 (.bl _))
theorem ve_or {rest : List Expr} (ha : VE X O a v1) (hb : VE X O (.BoolOp .Or (b :: rest) pos) v2) : VE X O (.BoolOp .Or (a :: b :: rest) pos) (vOrV v1 v2) := PE.imp (pe_or ha hb) fun σ H Q q => by
  obtain ⟨A, W0, H0, W, ρ, rs, Q0, E, q, k⟩ := q
  refine ⟨A, W0, H0, W, ρ, rs, _, E, q, fun d r1 q1 v H1 W1 x1 E1 m1 => ?_⟩
  obtain ⟨c, rfl, q1⟩ := q1
  refine ⟨c, mB.bl (Hs := H) (.inl m1), ?_⟩
  cases c with
  | true => exact iteT (k _ r1 q1 _ H1 W1 x1 E1 (.bl _))
  | false => exact iteF ⟨A, W0, H0, W1, ρ, r1, _, E1, q1, fun d r2 q2 v H2 W2 x2 E2 m2 => k d r2 q2 v H2 W2 (x1.trans x2) E2 m2⟩
theorem vm_if {M : Mode} (g : GoodM M) (hc : VTs X O c c1) (ha : PE X a (liftM X.K O M v1)) (hb : PE X b (liftM X.K O M v2)) : PE X (.IfExp c a b pos) (liftM X.K O M (vIf c1 v1 v2)) := PE.imp (pe_ifExp hc ha hb) fun σ H Q q => by
  obtain ⟨A, W0, H0, W, ρ, rs, Q0, E, q, k⟩ := q
  refine ⟨A, W0, H0, W, ρ, rs, _, E, q, fun t r1 q1 H1 W1 x1 E1 => ?_⟩
  cases t with
  | true => exact iteT ⟨A, W0, H0, W1, ρ, r1, _, E1, q1, fun d r2 q2 v H2 W2 x2 E2 m2 => k d r2 q2 v H2 W2 (x1.trans x2) E2 (g.bk m2 x1.al)⟩
  | false => exact iteF ⟨A, W0, H0, W1, ρ, r1, _, E1, q1, fun d r2 q2 v H2 W2 x2 E2 m2 => k d r2 q2 v H2 W2 (x1.trans x2) E2 (g.bk m2 x1.al)⟩
theorem ve_if (hc : VTs X O c c1) (ha : VE X O a v1) (hb : VE X O b v2) : VE X O (.IfExp c a b pos) (vIf c1 v1 v2) := vm_if goodF hc ha hb
theorem vl_if (hc : VTs X O c c1) (ha : VL X O a v1) (hb : VL X O b v2) : VL X O (.IfExp c a b pos) (vIf c1 v1 v2) := vm_if goodL hc ha hb
theorem vt_val (h : VE X O e v1) (he : ∀ whole, isTrue e X.env whole = (do let v ← whole; standAt e.pos; holding [v] (truthy v)) := by intro _; rfl) : VTs X O e (vB v1) := PT.imp (pt_val h he) fun σ H Q q => by
  obtain ⟨A, W0, H0, W, ρ, rs, Q0, E, q, k⟩ := q
  refine ⟨A, W0, H0, W, ρ, rs, _, E, q, fun d r1 q1 v H1 W1 x1 E1 m1 => ?_⟩
  obtain ⟨c, rfl, q1⟩ := q1
  exact ⟨c, mB.bl (Hs := H) (.inl m1), k c r1 q1 H1 W1 x1 E1⟩
theorem vt_not (h : VTs X O a c1) : VTs X O (.UnaryOp .Not a pos) (vNot c1) := PT.imp (pt_not h) fun σ H Q q => by
  obtain ⟨A, W0, H0, W, ρ, rs, Q0, E, q, k⟩ := q
  exact ⟨A, W0, H0, W, ρ, rs, _, E, q, fun c r1 q1 H1 W1 x1 E1 => k _ r1 q1 H1 W1 x1 E1⟩
theorem vw_and1 (h : VTs X O a c1) : VW X O (.BoolOp .And [a] pos) c1 := pw_and1 h
theorem vw_or1 (h : VTs X O a c1) : VW X O (.BoolOp .Or [a] pos) c1 := pw_or1 h
theorem vw_and {rest : List Expr} (ha : VTs X O a c1) (hb : VW X O (.BoolOp .And (b :: rest) pos) c2) : VW X O (.BoolOp .And (a :: b :: rest) pos) (vAnd c1 c2) := PW.imp (pw_and ha hb) fun σ H Q q => by
  obtain ⟨A, W0, H0, W, ρ, rs, Q0, E, q, k⟩ := q
  refine ⟨A, W0, H0, W, ρ, rs, _, E, q, fun c r1 q1 H1 W1 x1 E1 => ?_⟩
  cases c with
  | true => exact iteT ⟨A, W0, H0, W1, ρ, r1, _, E1, q1, fun d r2 q2 H2 W2 x2 E2 => k d r2 q2 H2 W2 (x1.trans x2) E2⟩
  | false => exact iteF (k _ r1 q1 H1 W1 x1 E1)
theorem vw_or {rest : List Expr} (ha : VTs X O a c1) (hb : VW X O (.BoolOp .Or (b :: rest) pos) c2) : VW X O (.BoolOp .Or (a :: b :: rest) pos) (vOr c1 c2) := PW.imp (pw_or ha hb) fun σ H Q q => by
  obtain ⟨A, W0, H0, W, ρ, rs, Q0, E, q, k⟩ := q
  refine ⟨A, W0, H0, W, ρ, rs, _, E, q, fun c r1 q1 H1 W1 x1 E1 => ?_⟩
  cases c with
  | true => exact iteT (k _ r1 q1 H1 W1 x1 E1)
  | false => exact iteF ⟨A, W0, H0, W1, ρ, r1, _, E1, q1, fun d r2 q2 H2 W2 x2 E2 => k d r2 q2 H2 W2 (x1.trans x2) E2⟩
theorem VW.vt (h : VW X O e c1) : VTs X O e c1 := PW.pt h
end
end Sn
namespace Sn
open PySem PySem.Spec PyProof.Rows L2
/-- frozen things stay -/
structure StpV (K : PySem.W.Frag) (W : Addr → Prop) (H : Hp) (W' : Addr → Prop) (H' : Hp) : Prop where
  wl : ∀ a o, W a → H a = some o → H' a = some o
  tp : ∀ a xs, SqT K H a xs → SqT K H' a xs
  wk : ∀ a, W a → W' a
structure VN where
  nx : En → Rs → Prop
  rt : D → Rs → Prop
  bk : En → Rs → Prop := fun _ _ => False
  ct : En → Rs → Prop := fun _ _ => False
abbrev VTS := VN → En → Rs → Prop
section
variable {K : PySem.W.Frag} {A : Amb} {W0 W W' W2 : Addr → Prop} {H0 Hs H1 H H' H2 : Hp} {O O' B : List Nat} {σ σ' : L2.St} {ρ ρ' : En} {r r' : Rs} {v : V} {d : D} {i : Nat} {a : Addr}
theorem StpV.refl : StpV K W H W H := ⟨fun _ _ _ e => e, fun _ _ e => e, fun _ e => e⟩
theorem StpV.trans (x : StpV K W H W' H') (y : StpV K W' H' W2 H2) : StpV K W H W2 H2 := ⟨fun a o w e => y.wl a o (x.wk a w) (x.wl a o w e), fun a xs e => y.tp a xs (x.tp a xs e), fun a w => y.wk a (x.wk a w)⟩
theorem Ext.stp (x : Ext K A W H W' H') (av : ∀ a, W a → ¬ A.U a) : StpV K W H W' H' := ⟨fun a o w e => x.fr a o (av a w) e, x.tp, x.wk⟩
theorem Dw.stp (h : Dw K A W H v d) (x : StpV K W H W' H') : Dw K A W' H' v d := h.mov x.wk x.wl x.tp
theorem DwA.stp {vs : List V} {ds : List D} (h : DwA K A W H vs ds) (x : StpV K W H W' H') : DwA K A W' H' vs ds := DwA.mov x.wk x.wl x.tp h
/-- an owned thing is changed: frozen things stay -/
theorem Env.mutS {o' : HO} (E : Env K A W0 H0 O W σ H ρ r) (n : Fre O i) (e : ρ[i]? = some (some d)) (s : σ[i]? = some (some (.ref a))) : StpV K W H W (upd H a o') := by
  obtain ⟨b, h1, h2, h3, h4, h5⟩ := E.own i d e n
  rw [s] at h1
  cases h1
  obtain ⟨o, ho⟩ : ∃ o, H a = some o := by
    cases q : H a with
    | none => exact absurd q h2.isSome
    | some o => exact ⟨o, rfl⟩
  exact ⟨fun b o w e => by rw [upd_ne (fun y => h3 (by rw [← y]; exact w))]; exact e, fun b xs q => sqT_put ho (h2.noTup ho) q, fun _ e => e⟩
/-- what is wanted behind a statement: O owned at its start, O' behind it, B where a loop goes on or ends; results by the mode M -/
def liftS (K : PySem.W.Frag) (M : Mode) (B O O' : List Nat) (vs : VTS) : TS := fun D σ H => ∃ (A : Amb) (W0 : Addr → Prop) (H0 : Hp) (W : Addr → Prop) (ρ : En) (r : Rs) (N : VN), Env K A W0 H0 O W σ H ρ r ∧ vs N ρ r ∧
  (∀ ρ' r', N.nx ρ' r' → ∀ σ' H' W', Env K A W0 H0 O' W' σ' H' ρ' r' → StpV K W H W' H' → D.nx σ' H') ∧
  (∀ d r', N.rt d r' → ∀ v H' W', Ext K A W0 H0 W' H' → Res K A W' H' r' → M K A H0 W' H' v d → D.rt v H') ∧
  (∀ ρ' r', N.bk ρ' r' → ∀ σ' H' W', Env K A W0 H0 B W' σ' H' ρ' r' → StpV K W H W' H' → D.bk σ' H') ∧
  (∀ ρ' r', N.ct ρ' r' → ∀ σ' H' W', Env K A W0 H0 B W' σ' H' ρ' r' → StpV K W H W' H' → D.ct σ' H')
end
def VS (X : Cx) (M : Mode) (B O O' : List Nat) (st : Stmt) (vs : VTS) : Prop := PS X st (liftS X.K M B O O' vs)
def VSs (X : Cx) (M : Mode) (B O O' : List Nat) (st : List Stmt) (vs : VTS) : Prop := PSs X st (liftS X.K M B O O' vs)
def vNext : VTS := fun N ρ r => N.nx ρ r
def vSeq (s t : VTS) : VTS := fun N ρ r => s { N with nx := fun ρ' r' => t N ρ' r' } ρ r
def vSet (i : Nat) (v : VT) : VTS := fun N ρ r => v ρ r fun d r1 => N.nx (ρ.set i (some d)) r1
def vSetO (i : Nat) (v : VT) : VTS := fun N ρ r => v ρ r fun d r1 => isMut d = true ∧ N.nx (ρ.set i (some d)) r1
def vDrop (v : VT) : VTS := fun N ρ r => v ρ r fun _ r1 => N.nx ρ r1
def vRet (v : VT) : VTS := fun N ρ r => v ρ r fun d r1 => N.rt d r1
def vRetN : VTS := fun N _ r => N.rt .none r
def vIfS (c : VTT) (s t : VTS) : VTS := fun N ρ r => c ρ r fun b r1 => if b = true then s N ρ r1 else t N ρ r1
def vBreak : VTS := fun N ρ r => N.bk ρ r
def vCont : VTS := fun N ρ r => N.ct ρ r
def vAppend (i : Nat) (v : VT) : VTS := fun N ρ r => ∃ ds, ρ[i]? = some (some (.list ds)) ∧ v ρ r fun d r1 => ds.length < sizeLine ∧ N.nx (ρ.set i (some (.list (ds ++ [d])))) r1
def vExtend (i : Nat) (v : VT) : VTS := fun N ρ r => ∃ ds, ρ[i]? = some (some (.list ds)) ∧ v ρ r fun d r1 => ∃ es, d = .list es ∧ ds.length + es.length ≤ sizeLine ∧ N.nx (ρ.set i (some (.list (ds ++ es)))) r1
section
variable {X : Cx} {M : Mode} {B O O' O1 O2 : List Nat} {e a b c : Expr} {es : List Expr} {st : Stmt} {rest sts els : List Stmt} {s1 s2 : VTS} {v1 v2 v3 : VT} {vs : VTA} {c1 c2 : VTT} {pos pos' : Pos} {i j : Nat} {x y : Str}
theorem vss_nil : VSs X M B O O [] vNext := PSs.imp pss_nil fun D σ H q => by
  obtain ⟨A, W0, H0, W, ρ, r, N, E, q, kn, kr, kb, kc⟩ := q
  exact kn ρ r q σ H W E .refl
theorem vss_one (h : VS X M B O O' st s1) : VSs X M B O O' [st] s1 := pss_one h
theorem vss_cons (h : VS X M B O O1 st s1) (h2 : VSs X M B O1 O2 rest s2) : VSs X M B O O2 (st :: rest) (vSeq s1 s2) := PSs.imp (pss_cons h h2) fun D σ H q => by
  obtain ⟨A, W0, H0, W, ρ, r, N, E, q, kn, kr, kb, kc⟩ := q
  refine ⟨A, W0, H0, W, ρ, r, _, E, q, fun ρ' r' q' σ' H' W' E' x' => ?_, kr, kb, kc⟩
  exact ⟨A, W0, H0, W', ρ', r', N, E', q', fun ρ2 r2 q2 σ2 H2 W2 E2 x2 => kn ρ2 r2 q2 σ2 H2 W2 E2 (x'.trans x2), kr, fun ρ2 r2 q2 σ2 H2 W2 E2 x2 => kb ρ2 r2 q2 σ2 H2 W2 E2 (x'.trans x2), fun ρ2 r2 q2 σ2 H2 W2 E2 x2 => kc ρ2 r2 q2 σ2 H2 W2 E2 (x'.trans x2)⟩
/-- a name's thing freezes ahead of what follows -/
theorem Env.frz {K : PySem.W.Frag} {A : Amb} {W0 W : Addr → Prop} {H0 H : Hp} {σ : L2.St} {ρ : En} {r : Rs} (E : Env K A W0 H0 O W σ H ρ r) (i : Nat) (nr : Rep O i) : ∃ W', Env K A W0 H0 (O.filter (· ≠ i)) W' σ H ρ r ∧ StpV K W H W' H := by
  have rin : ∀ j, j + 2000 ∈ O.filter (· ≠ i) → j ∈ O.filter (· ≠ i) := fun j h => by
    have h := (List.mem_filter.mp h).1
    have q : j ≠ i := fun q => nr.1 (by rw [← q]; exact h)
    exact List.mem_filter.mpr ⟨E.rin j h, by simpa using q⟩
  have bor : ∀ (j : Nat) (a : Addr), (j, a) ∈ A.bo → Fre (O.filter (· ≠ i)) j ∧ j + 1000 ∈ O.filter (· ≠ i) ∧ j < 1000 ∧ σ[j]? = some (some (.ref a)) ∧ ∃ d, ρ[j]? = some (some d) := fun j b h => by
    obtain ⟨h1, h2, h3, h4, h5⟩ := E.bor j b h
    have q : j ≠ i := fun q => nr.2.1 (by rw [← q]; exact h2)
    exact ⟨h1.toF q, List.mem_filter.mpr ⟨h2, by have := nr.2.2; simp; omega⟩, h3, h4, h5⟩
  by_cases hd : i ∈ O ∧ ∃ d, ρ[i]? = some (some d)
  · obtain ⟨n, d, e⟩ := hd
    have nf : Fre O i := ⟨n, nr.1⟩
    obtain ⟨a, h1, h2, h3, h4, h5⟩ := E.own i d e nf
    have mv : ∀ {b : Addr} {dd : D}, Own K A W H b dd → Own K A (wPlus W a) H b dd := fun q => q.mov (fun _ e => .inl e) (fun _ _ _ e => e) (fun _ _ e => e) fun o q => q
    refine ⟨wPlus W a, { len := E.len, var := fun j e1 q1 q2 => ?_, own := fun j e1 q1 q2 => ?_, rdo := fun j e1 q1 q2 => ?_, rin := rin, bor := bor, dis := fun j k b e1 e2 q1 q2 q3 q4 q5 q6 q7 => ?_, res := E.res.plus h4 h2.isSome, bs := E.bs.plus h5 }, fun _ _ _ e => e, fun _ _ e => e, fun _ e => .inl e⟩
    · by_cases q : j = i
      · subst q
        rw [e] at q1
        cases q1
        exact ⟨_, h1, (mv h2).dw (.inr rfl)⟩
      · obtain ⟨v, z1, z2⟩ := E.var j e1 q1 fun z => q2 (List.mem_filter.mpr ⟨z, by simpa using q⟩)
        exact ⟨v, z1, z2.mov (fun _ e => .inl e) (fun _ _ _ e => e) fun _ _ e => e⟩
    · obtain ⟨q3, q4⟩ := q2.filter nr
      obtain ⟨b, z1, z2, z3, z4, z5⟩ := E.own j e1 q1 q3
      refine ⟨b, z1, mv z2, fun y => ?_, z4, z5⟩
      rcases y with y | y
      · exact z3 y
      · subst y
        exact E.dis j i b _ _ q3 nf q4 q1 e z1 h1
    · obtain ⟨v, z1, z2, hk⟩ := E.rdo j e1 q1 (List.mem_filter.mp q2).1
      refine ⟨v, z1, ?_, hk⟩
      rcases z2 with z2 | ⟨b, z2, z3, z4, z5⟩
      · exact .inl (z2.mov (fun _ e => .inl e) (fun _ _ _ e => e) fun _ _ e => e)
      · exact .inr ⟨b, z2, z3.mov (fun _ e => .inl e) (fun _ _ _ e => e) (fun _ _ e => e) fun o q => q, z4, z5⟩
    · exact E.dis j k b e1 e2 (q1.filter nr).1 (q2.filter nr).1 q3 q4 q5 q6 q7
  · refine ⟨W, { len := E.len, var := fun j e1 q1 q2 => E.var j e1 q1 fun z => ?_, own := fun j e1 q1 q2 => E.own j e1 q1 (q2.filter nr).1, rdo := fun j e1 q1 q2 => E.rdo j e1 q1 (List.mem_filter.mp q2).1, rin := rin, bor := bor, dis := fun j k b e1 e2 q1 q2 => E.dis j k b e1 e2 (q1.filter nr).1 (q2.filter nr).1, res := E.res, bs := E.bs }, .refl⟩
    by_cases q : j = i
    · subst q
      exact hd ⟨z, e1, q1⟩
    · exact q2 (List.mem_filter.mpr ⟨z, by simpa using q⟩)
theorem ps_asg_core {D : Ends} {σ : L2.St} {H : Hp} (he : VE X O e v1) (n : i ∉ O) (q : liftS X.K M B O O (vSet i v1) D σ H) : tAsg (liftM X.K O mF v1) (gName i) D σ H := by
  obtain ⟨A, W0, H0, W, ρ, r, N, E, q, kn, kr, kb, kc⟩ := q
  exact ⟨A, W0, H0, W, ρ, r, _, E, q, fun d r1 q1 v H1 W1 x1 E1 m1 => kn _ r1 q1 _ H1 W1 (E1.set n m1) (x1.stp E.res.av)⟩
theorem vs_set (hN : X.N.Nodup) (hi : X.N[i]? = some x) (hx : Loc X.env.scope x) (he : VE X O e v1) (n : i ∉ O := by decide) (hs : swapsWith e (some (.Name x pos')) pos.line X.env = pure false := by rfl) (hf : X.fn x = true ∨ X.env.scope.names.lookup x = some .local := by first | exact .inl rfl | exact .inr rfl | assumption) :
    VS X M B O O (.Assign [.Name x pos'] e pos) (vSet i v1) := PS.imp (ps_set hN hi hx he hs hf) fun D σ H q => ps_asg_core he n q
/-- a slot without a value is owned from now on -/
theorem Env.addO {K : PySem.W.Frag} {A : Amb} {W0 W : Addr → Prop} {H0 H : Hp} {σ : L2.St} {ρ : En} {r : Rs} (E3 : Env K A W0 H0 O W (σ.set i none) H (ρ.set i none) r) (n : i ∈ O') (nr : Rep O' i) (h1 : ∀ j, j ∈ O' ↔ j = i ∨ j ∈ O) : Env K A W0 H0 O' W (σ.set i none) H (ρ.set i none) r := by
  have g : ∀ {j : Nat} {e1 : Sn.D}, (ρ.set i none)[j]? = some (some e1) → j ≠ i := fun {j e1} y q => by
    subst q
    have hl : j < ρ.length := by
      have := (List.getElem?_eq_some_iff.mp y).1
      rwa [List.length_set] at this
    rw [List.getElem?_set_self hl] at y
    cases y
  have f : ∀ {j}, j ≠ i → Fre O' j → Fre O j := fun {j} q z => ⟨((h1 j).mp z.1).resolve_left q, fun y => z.2 ((h1 _).mpr (.inr y))⟩
  have big : ∀ j k, 1000 ≤ k → j + k ∈ O' → j + k ∈ O := fun j k hk z => ((h1 _).mp z).resolve_left (by have := nr.2.2; omega)
  refine { len := E3.len, var := fun j d e z => E3.var j d e fun y => z ((h1 j).mpr (.inr y)), own := fun j d e z => E3.own j d e (f (g e) z), rdo := fun j d e z => E3.rdo j d e (big _ _ (by omega) z), rin := fun j z => ?_, bor := fun j a z => ?_, dis := fun j k b d e z1 z2 z3 z4 z5 => E3.dis j k b d e (f (g z4) z1) (f (g z5) z2) z3 z4 z5, res := E3.res, bs := E3.bs }
  · exact (h1 j).mpr (.inr (E3.rin j (big _ _ (by omega) z)))
  · obtain ⟨y1, y2, y3, y4, d, y5⟩ := E3.bor j a z
    exact ⟨⟨(h1 j).mpr (.inr y1.1), fun y => y1.2 (big _ _ (by omega) y)⟩, (h1 _).mpr (.inr y2), y3, y4, d, y5⟩
/-- x = a new list or dict; x is owned from now on -/
theorem asgO_core {D : Ends} {σ : L2.St} {H : Hp} (n : i ∈ O') (nr : Rep O' i) (h1 : ∀ j, j ∈ O' ↔ j = i ∨ j ∈ O) (q : liftS X.K M B O O' (vSetO i v1) D σ H) : tAsg (liftM X.K O mL v1) (gName i) D σ H := by
  obtain ⟨A, W0, H0, W, ρ, r, N, E, q, kn, kr, kb, kc⟩ := q
  refine ⟨A, W0, H0, W, ρ, r, _, E, q, fun d r1 q1 v H1 W1 x1 E1 m1 => ?_⟩
  rcases m1 with ⟨m, a, rfl, h, w, u, nn⟩ | ⟨m, _⟩
  · refine kn _ r1 q1.2 _ H1 W1 ?_ (x1.stp E.res.av)
    have nrO : Rep O i := ⟨fun z => nr.1 ((h1 _).mpr (.inr z)), fun z => nr.2.1 ((h1 _).mpr (.inr z)), nr.2.2⟩
    have E2 := (E1.drop i none nrO).addO n nr h1
    have E4 := E2.setO (i := i) (a := a) (d := d) n nr h w u (E.h0 nn) (fun j e z1 z2 z3 => by
      have jl : j ≠ i := fun y => by
        subst y
        have hl : j < ρ.length := by
          have := (List.getElem?_eq_some_iff.mp z1).1
          rwa [List.length_set] at this
        rw [List.getElem?_set_self hl] at z1
        cases z1
      rw [List.getElem?_set_ne (Ne.symm jl)] at z1 z3
      exact E.fresh nn j e z1 ⟨((h1 j).mp z2.1).resolve_left jl, fun y => z2.2 ((h1 _).mpr (.inr y))⟩ z3)
    rw [List.set_set, List.set_set] at E4
    exact E4
  · rw [q1.1] at m
    cases m
theorem vs_setN (hN : X.N.Nodup) (hi : X.N[i]? = some x) (hx : Loc X.env.scope x) (he : VL X O e v1) (nr : Rep (i :: O) i := by decide) (hs : swapsWith e (some (.Name x pos')) pos.line X.env = pure false := by rfl) (hf : X.fn x = true ∨ X.env.scope.names.lookup x = some .local := by first | exact .inl rfl | exact .inr rfl | assumption) :
    VS X M B O (i :: O) (.Assign [.Name x pos'] e pos) (vSetO i v1) := PS.imp (ps_set hN hi hx he hs hf) fun D σ H q => asgO_core (List.mem_cons_self ..) nr (fun j => List.mem_cons) q
theorem vs_retM (g : GoodM M) (he : PE X e (liftM X.K O M v1)) : VS X M B O O' (.Return (some e) pos) (vRet v1) := PS.imp (ps_ret he) fun D σ H q => by
  obtain ⟨A, W0, H0, W, ρ, r, N, E, q, kn, kr, kb, kc⟩ := q
  exact ⟨A, W0, H0, W, ρ, r, _, E, q, fun d r1 q1 v H1 W1 x1 E1 m1 => kr d r1 q1 v H1 W1 E1.bs E1.res (g.bk m1 E.bs.al)⟩
theorem vs_ret (he : VE X O e v1) : VS X mF B O O' (.Return (some e) pos) (vRet v1) := vs_retM goodF he
theorem vs_if (hc : VTs X O c c1) (ha : VSs X M B O O' sts s1) (hb : VSs X M B O O' els s2) : VS X M B O O' (.If c sts els pos) (vIfS c1 s1 s2) := PS.imp (ps_if hc ha hb) fun D σ H q => by
  obtain ⟨A, W0, H0, W, ρ, r, N, E, q, kn, kr, kb, kc⟩ := q
  refine ⟨A, W0, H0, W, ρ, r, _, E, q, fun t r1 q1 H1 W1 x1 E1 => ?_⟩
  have xs := x1.stp E.res.av
  cases t with
  | true => exact iteT ⟨A, W0, H0, W1, ρ, r1, N, E1, q1, fun ρ' r' q' σ' H' W' E' x' => kn ρ' r' q' σ' H' W' E' (xs.trans x'), kr, fun ρ' r' q' σ' H' W' E' x' => kb ρ' r' q' σ' H' W' E' (xs.trans x'), fun ρ' r' q' σ' H' W' E' x' => kc ρ' r' q' σ' H' W' E' (xs.trans x')⟩
  | false => exact iteF ⟨A, W0, H0, W1, ρ, r1, N, E1, q1, fun ρ' r' q' σ' H' W' E' x' => kn ρ' r' q' σ' H' W' E' (xs.trans x'), kr, fun ρ' r' q' σ' H' W' E' x' => kb ρ' r' q' σ' H' W' E' (xs.trans x'), fun ρ' r' q' σ' H' W' E' x' => kc ρ' r' q' σ' H' W' E' (xs.trans x')⟩
/-- x.append(e), x owned -/
theorem vs_append (h : PE X e (tBM X.K "list" rAppend (tVar i) (tCons (liftM X.K O mF v1) tNil))) (n : Fre O i := by decide) (hs : swapsWith e none pos.line X.env = pure false := by rfl) : VS X M B O O (.Expr e pos) (vAppend i v1) := PS.imp (ps_expr h hs) fun D σ H q => by
  obtain ⟨A, W0, H0, W, ρ, r, N, E, ⟨ds, hd, q⟩, kn, kr, kb, kc⟩ := q
  obtain ⟨a, h1, h2, h3, h4, h5⟩ := E.own i _ hd n
  have ha : ∃ xs, H a = some (.lst xs) := by cases h2 with | lst h _ => exact ⟨_, h⟩
  obtain ⟨xs0, ha⟩ := ha
  refine ⟨_, h1, .inl ⟨rfl, _, SqL.of ha⟩, A, W0, H0, W, ρ, r, _, E, q, fun d r1 q1 v H1 W1 x1 E1 m1 => ?_⟩
  obtain ⟨b, g1, g2, _⟩ := E1.own i _ hd n
  rw [h1] at g1
  cases g1
  cases g2 with
  | lst g g' =>
    rename_i xs
    refine ⟨a, xs, v, rfl, rfl, g, by rw [g'.len]; exact q1.1, ?_⟩
    have st := E1.mutS (o' := .lst (xs ++ [v])) n hd h1
    refine kn _ r1 q1.2 σ _ W1 (E1.mut n hd h1 fun _ => ?_) ((x1.stp E.res.av).trans st)
    exact .lst upd_same ((g'.app (.cons m1 .nil)).stp st)
end
/-- a name, or names in brackets -/
inductive Tgt where
  | nm (i : Nat)
  | tp (is : List Nat)
def gNames : List Nat → TGs
  | [] => gNil
  | i :: is => gCons (gName i) (gNames is)
def gOf (K : PySem.W.Frag) : Tgt → TG
  | .nm i => gName i
  | .tp is => gTup K is.length (gNames is)
def setAll (ρ : En) : List Nat → List D → En
  | i :: is, d :: ds => setAll (ρ.set i (some d)) is ds
  | _, _ => ρ
def vBind : Tgt → D → En → (En → Prop) → Prop
  | .nm i, d, ρ, Q => Q (ρ.set i (some d))
  | .tp is, d, ρ, Q => ∃ ds, d = .tuple ds ∧ ds.length = is.length ∧ Q (setAll ρ is ds)
def Tgt.ok (O : List Nat) : Tgt → Prop
  | .nm i => i ∉ O
  | .tp is => ∀ i ∈ is, i ∉ O
instance (O : List Nat) (t : Tgt) : Decidable (t.ok O) := by
  cases t <;> unfold Tgt.ok <;> infer_instance
section
variable {K : PySem.W.Frag} {A : Amb} {W0 W : Addr → Prop} {H0 H : Hp} {O : List Nat} {σ : L2.St} {ρ : En} {r : Rs} {v : V} {d : D}
theorem bind_names : ∀ {is : List Nat} {xs : List V} {ds : List D} {σ : L2.St} {ρ : En} {Q : L2.St → Hp → Prop}, Env K A W0 H0 O W σ H ρ r → (∀ i ∈ is, i ∉ O) → DwA K A W H xs ds → ds.length = is.length → (∀ σ', Env K A W0 H0 O W σ' H (setAll ρ is ds) r → Q σ' H) → gNames is xs σ H Q
  | [], xs, ds, σ, ρ, Q, E, hO, h, hl, k => by
    cases h with
    | nil => exact ⟨rfl, k σ E⟩
    | cons _ _ => simp at hl
  | i :: is, xs, ds, σ, ρ, Q, E, hO, h, hl, k => by
    cases h with
    | nil => simp at hl
    | cons h1 h2 =>
      refine ⟨_, _, rfl, ?_⟩
      exact bind_names (E.set (hO i (List.mem_cons_self ..)) h1) (fun j hj => hO j (List.mem_cons_of_mem _ hj)) h2 (by simpa using hl) k
theorem bind_go {t : Tgt} {Q0 : En → Prop} {Q : L2.St → Hp → Prop} (E : Env K A W0 H0 O W σ H ρ r) (hO : t.ok O) (h : Dw K A W H v d) (q : vBind t d ρ Q0) (k : ∀ ρ' σ', Q0 ρ' → Env K A W0 H0 O W σ' H ρ' r → Q σ' H) : gOf K t v σ H Q := by
  cases t with
  | nm i => exact k _ _ q (E.set hO h)
  | tp is =>
    obtain ⟨ds, rfl, hl, q⟩ := q
    cases h with
    | tup h hx => exact ⟨_, _, rfl, h, by rw [hx.len, hl], bind_names E hO hx hl fun σ' E' => k _ σ' q E'⟩
end
def vAsgT (t : Tgt) (v : VT) : VTS := fun N ρ r => v ρ r fun d r1 => vBind t d ρ fun ρ' => N.nx ρ' r1
abbrev VTI := En → Rs → (List D → Rs → Prop) → Prop
/-- J walks the data ds, as long as frozen things stay -/
def Walks (K : PySem.W.Frag) (A : Amb) (W : Addr → Prop) (H : Hp) (J : It) (ds : List D) : Prop := ∃ (G : Hp → Prop) (Y : Nat → Hp → V → Hp → Prop), Walk J ds.length G Y ∧ (∀ W' H', StpV K W H W' H' → G H') ∧
  ∀ i H1 W1 x H2 d, ds[i]? = some d → StpV K W H W1 H1 → Y i H1 x H2 → Same H1 H2 ∧ Dw K A W1 H2 x d
def liftI (K : PySem.W.Frag) (O : List Nat) (vi : VTI) : TI := fun σ H R => ∃ (A : Amb) (W0 : Addr → Prop) (H0 : Hp) (W : Addr → Prop) (ρ : En) (r : Rs) (Q0 : List D → Rs → Prop), Env K A W0 H0 O W σ H ρ r ∧ vi ρ r Q0 ∧
  ∀ ds r', Q0 ds r' → ∀ J H' W', Ext K A W H W' H' → Env K A W0 H0 O W' σ H' ρ r' → Walks K A W' H' J ds → R J H'
def VI (X : Cx) (O : List Nat) (tg e : Expr) (vi : VTI) : Prop := PI X tg e (liftI X.K O vi)
theorem PI.imp {X : Cx} {tg e : Expr} {t t' : TI} (h : PI X tg e t) (i : ∀ σ H Q, t' σ H Q → t σ H Q) : PI X tg e t' := ⟨fun pins s σ H Q I q => h.run pins s σ H Q I (i σ H Q q)⟩
def strD (z : Str) : List D := z.cps.toList.map fun c => .str ⟨#[c]⟩
def dSeq : D → (List D → Prop) → Prop
  | .list ds, Q => Q ds
  | .tuple ds, Q => Q ds
  | .str z, Q => Q (strD z)
  | _, _ => False
def vSeqI (v : VT) : VTI := fun ρ r Q => v ρ r fun d r1 => dSeq d fun ds => Q ds r1
def rngD (lo : Int) (n : Nat) : List D := (List.range n).map fun (i : Nat) => .int (lo + (i : Int))
def vRng1 (va : VTA) : VTI := fun ρ r Q => va ρ r fun ds r1 => ∃ j, ds = [.int j] ∧ -(2 ^ 62) ≤ j ∧ j < 2 ^ 62 ∧ Q (rngD 0 j.toNat) r1
def vRng2 (va : VTA) : VTI := fun ρ r Q => va ρ r fun ds r1 => ∃ i j, ds = [.int i, .int j] ∧ (-(2 ^ 62) ≤ i ∧ i < 2 ^ 62 ∧ -(2 ^ 62) ≤ j ∧ j < 2 ^ 62) ∧ Q (rngD i (j - i).toNat) r1
def iSeq (K : PySem.W.Frag) (tl : TE) : TI := fun σ H R => tl σ H fun x H1 => (∃ a, x = .ref a ∧ (∃ xs, SqL K H1 a xs) ∧ R (Itl K a) H1) ∨ (∃ a, x = .ref a ∧ (∃ xs, SqT K H1 a xs) ∧ R (Itt K a) H1) ∨ ∃ z, x = .str z ∧ R (Its z) H1
section
variable {X : Cx} {O : List Nat} {e a b c tg : Expr} {es : List Expr} {v1 v2 v3 : VT} {vs : VTA} {pos : Pos}
theorem pi_seq {tl : TE} (hl : PE X e tl) : PI X tg e (iSeq X.K tl) := by
  refine ⟨fun pins s σ H R I h => ?_⟩
  refine thn (hl.run pins s σ H _ I h) fun v s1 ⟨x, H1, I1, r1, q1⟩ => ?_
  rcases q1 with ⟨a, e, ⟨xs, hq⟩, q⟩ | ⟨a, e, ⟨xs, hq⟩, q⟩ | ⟨x, ex, q⟩
  · subst e
    cases r1
    obtain ⟨its, rv, p, hz⟩ := I1.list hq
    refine wpAny_pyIter_list p.isList ?_
    refine ⟨s1.heap.objs.size, [s1.heap.objs.size], _, _, H1, rfl, I1.kept (t' := s1.toks) fun b o e => Heap.get?_push_of_some _ e, turn_list a _, ⟨_, Heap.get?_push_size _ rfl, rfl, rfl⟩, fun b hb => ?_, q⟩
    have e : b = s1.heap.objs.size := by simpa using hb
    subst e
    exact I1.fpOk (Nat.le_refl _) (I1.hok.fresh (Nat.le_refl _))
  · subst e
    cases r1
    obtain ⟨its, rv, p, hz⟩ := I1.tuple hq
    refine wpAny_pyIter_tuple (show s1.heap.IsTuple a its.toArray from p) ?_
    refine ⟨s1.heap.objs.size, [s1.heap.objs.size], _, _, H1, rfl, I1.kept (t' := s1.toks) fun b o e => Heap.get?_push_of_some _ e, turn_tuple a _, ⟨_, Heap.get?_push_size _ rfl, rfl, rfl⟩, fun b hb => ?_, q⟩
    have e : b = s1.heap.objs.size := by simpa using hb
    subst e
    exact I1.fpOk (Nat.le_refl _) (I1.hok.fresh (Nat.le_refl _))
  · subst ex
    obtain ⟨t, rfl⟩ := r1
    cases ha : x.cps.all (· < 128)
    · exact wpAny_pyIter_wide ha (pi_one (tk := s1.toks) I1 _ (turn_str _ x t "str_iterator" (.inr rfl)) ⟨_, Heap.get?_push_size _ rfl, rfl, rfl⟩ q)
    · exact wpAny_pyIter_ascii ha (pi_one (tk := s1.toks) I1 _ (turn_str _ x t "str_ascii_iterator" (.inl rfl)) ⟨_, Heap.get?_push_size _ rfl, rfl, rfl⟩ q)
theorem same_rfl {H : Hp} : Same H H := fun _ _ e => e
theorem walks_at {K : PySem.W.Frag} {A : Amb} {W W1 : Addr → Prop} {H H1 H2 : Hp} {xs : List V} {ds : List D} {i : Nat} {x : V} {d : D} (h : DwA K A W H xs ds) (e : ds[i]? = some d) (s : StpV K W H W1 H1) (y : YAt xs i H1 x H2) : Same H1 H2 ∧ Dw K A W1 H2 x d := by
  obtain ⟨rfl, y⟩ := y
  obtain ⟨v, e1, h1⟩ := h.get e
  rw [y] at e1
  cases e1
  exact ⟨same_rfl, h1.stp s⟩
/-- for x in e: a list, a tuple or a text -/
theorem vi_seq (h : VE X O e v1) : VI X O tg e (vSeqI v1) := PI.imp (pi_seq h) fun σ H R q => by
  obtain ⟨A, W0, H0, W, ρ, rs, Q0, E, q, k⟩ := q
  refine ⟨A, W0, H0, W, ρ, rs, _, E, q, fun d r1 q1 v H1 W1 x1 E1 m1 => ?_⟩
  cases m1 with
  | tup h1 h2 =>
    rename_i a xs ds
    refine .inr (.inl ⟨a, rfl, ⟨xs, h1⟩, k ds r1 q1 _ H1 W1 x1 E1 ⟨_, _, ?_, fun W' H' s => s.tp _ _ h1, fun i H1 W1 x H2 d e s y => walks_at h2 e s y⟩⟩)
    rw [← h2.len]
    exact walk_tup
  | lst w h1 h2 =>
    rename_i a xs ds
    refine .inl ⟨a, rfl, ⟨xs, .inl (.inl h1)⟩, k ds r1 q1 _ H1 W1 x1 E1 ⟨fun H => SqL X.K H a xs, _, ?_, fun W' H' s => SqL.of (s.wl _ _ w h1), fun i H1 W1 x H2 d e s y => walks_at h2 e s y⟩⟩
    rw [← h2.len]
    exact walk_list
  | str z =>
    refine .inr (.inr ⟨z, rfl, k _ r1 q1 _ H1 W1 x1 E1 ⟨fun _ => True, fun i H v H' => H' = H ∧ ∃ c, z.cps[i]? = some c ∧ v = .str ⟨#[c]⟩, ?_, fun W' H' s => trivial, fun i H1 W1 x H2 d e s y => ?_⟩⟩)
    · have : (strD z).length = z.cps.size := by simp [strD]
      rw [this]
      exact walk_str
    · obtain ⟨rfl, c, hc, rfl⟩ := y
      have : d = .str ⟨#[c]⟩ := by
        simp only [strD, List.getElem?_map] at e
        rw [Array.getElem?_toList, hc] at e
        simpa using e.symm
      rw [this]
      exact ⟨same_rfl, .str _⟩
  | _ => exact absurd q1 id
theorem walks_rng {K : PySem.W.Frag} {A : Amb} {W : Addr → Prop} {H : Hp} {lo : Int} {n : Nat} : Walks K A W H (Itr lo n) (rngD lo n) := by
  refine ⟨fun _ => True, YFn fun i => .int (lo + i), ?_, fun W' H' s => trivial, fun i H1 W1 x H2 d e s y => ?_⟩
  · have : (rngD lo n).length = n := by simp [rngD]
    rw [this]
    exact walk_range
  · obtain ⟨rfl, rfl⟩ := y
    have : d = .int (lo + i) := by
      simp only [rngD, List.getElem?_map] at e
      cases hi : (List.range n)[i]? with
      | none => rw [hi] at e; cases e
      | some j =>
        rw [hi] at e
        have hj := List.getElem?_eq_some_iff.mp hi
        obtain ⟨h1, h2⟩ := hj
        rw [List.getElem_range] at h2
        subst h2
        simpa using e.symm
    rw [this]
    exact ⟨same_rfl, .int _⟩
theorem vi_rng1 {p : Pos} (hg : Gl X "range") (hm : X.mg "range" = none) (ha : VAB X O [a] vs) (hs : starEach [a] X.env = [(false, eval a X.env)] := by rfl) : VI X O tg (.Call (.Name "range" p) [a] [] pos) (vRng1 vs) := PI.imp (pi_range1 hg hm ha hs) fun σ H R q => by
  obtain ⟨A, W0, H0, W, ρ, rs, Q0, E, q, k⟩ := q
  refine ⟨A, W0, H0, W, ρ, rs, _, E, q, fun ds r1 q1 us H1 W1 x1 E1 m1 => ?_⟩
  obtain ⟨j, rfl, g1, g2, q1⟩ := q1
  cases m1 with
  | cons h1 h2 =>
    cases h2
    exact ⟨j, by rw [h1.int], g1, g2, k _ r1 q1 _ H1 W1 x1 E1 walks_rng⟩
end
def vLoop (t : Tgt) (body : VTS) : List D → VTS
  | [], N, ρ, r => N.nx ρ r
  | d :: ds, N, ρ, r => vBind t d ρ fun ρ' => body { nx := vLoop t body ds N, ct := vLoop t body ds N, bk := N.nx, rt := N.rt } ρ' r
def vFor (vi : VTI) (t : Tgt) (body : VTS) : VTS := fun N ρ r => vi ρ r fun ds r1 => vLoop t body ds N ρ r1
section
variable {X : Cx} {M : Mode} {B O O' O1 O2 : List Nat} {e a b c tg iter : Expr} {es : List Expr} {st : Stmt} {rest sts els body : List Stmt} {s1 s2 : VTS} {v1 v2 v3 : VT} {vs : VTA} {vi : VTI} {c1 c2 : VTT} {pos pos' : Pos} {i j : Nat} {x y : Str} {t : Tgt}
theorem vs_for (hp : PassesOwn (model X.prog X.w) X.A X.env X.xe) (hc : X.calm = true) (hi : VI X O tg iter vi) (hg : PG X tg (gOf X.K t)) (hb : VSs X M O O O body s1) (hO : t.ok O := by decide) (hs : ∀ x, foldedSetIterable iter X.env x = pure x := by intro _; rfl) :
    VS X M B O O (.For tg iter body [] pos) (vFor vi t s1) := PS.imp (ps_for hp hc hi hg hb hs) fun D σ H q => by
  obtain ⟨A, W0, H0, W, ρ, rs, N, E, q, kn, kr, kb, kc⟩ := q
  refine ⟨A, W0, H0, W, ρ, rs, _, E, q, fun ds r1 q1 J H1 W1 x1 E1 wk => ?_⟩
  obtain ⟨G, Y, w, hG, hY⟩ := wk
  have xs1 := x1.stp E.res.av
  refine for_it w (fun i σ' H' => ∃ ρ' r' W', Env X.K A W0 H0 O W' σ' H' ρ' r' ∧ StpV X.K W1 H1 W' H' ∧ vLoop t s1 (ds.drop i) N ρ' r') ⟨ρ, r1, W1, E1, .refl, by rw [List.drop_zero]; exact q1⟩ (fun i σ' H' _ ⟨ρ', r', W', E', s', _⟩ => hG W' H' s') ?_ ?_
  · rintro i x σ2 H2 H3 hi ⟨ρ2, r2, W2, E2, s2, q2⟩ hy
    obtain ⟨sm, hd⟩ := hY i H2 W2 x H3 ds[i] (List.getElem?_eq_getElem hi) s2 hy
    rw [List.drop_eq_getElem_cons hi] at q2
    refine bind_go (E2.same sm) hO hd q2 fun ρ3 σ3 q3 E3 => ?_
    have s3 : StpV X.K W1 H1 W2 H3 := s2.trans ((Ext.same (A := A) sm).stp E2.res.av)
    refine ⟨A, W0, H0, W2, ρ3, r2, _, E3, q3, fun ρ4 r4 q4 σ4 H4 W4 E4 s4 => ⟨ρ4, r4, W4, E4, s3.trans s4, q4⟩, kr, fun ρ4 r4 q4 σ4 H4 W4 E4 s4 => kn ρ4 r4 q4 σ4 H4 W4 E4 (xs1.trans (s3.trans s4)), fun ρ4 r4 q4 σ4 H4 W4 E4 s4 => ⟨ρ4, r4, W4, E4, s3.trans s4, q4⟩⟩
  · rintro σ2 H2 ⟨ρ2, r2, W2, E2, s2, q2⟩
    rw [List.drop_length] at q2
    exact kn ρ2 r2 q2 σ2 H2 W2 E2 (xs1.trans s2)
/-- a, b = e -/
theorem vs_asgT (he : VE X O e v1) (hg : PG X tg (gOf X.K t)) (hO : t.ok O := by decide) (hs : swapsWithSole [tg] e pos.line X.env = pure false := by rfl) (hw : swappedStores [tg] e X.env = pure none := by rfl) (h1 : (assignEach [tg] X.env).map (·.2) = [assign tg X.env] := by rfl) : VS X M B O O (.Assign [tg] e pos) (vAsgT t v1) := PS.imp (ps_asg he hg hs hw h1) fun D σ H q => by
  obtain ⟨A, W0, H0, W, ρ, r, N, E, q, kn, kr, kb, kc⟩ := q
  refine ⟨A, W0, H0, W, ρ, r, _, E, q, fun d r1 q1 v H1 W1 x1 E1 m1 => ?_⟩
  exact bind_go E1 hO m1 q1 fun ρ' σ' q' E' => kn ρ' r1 q' σ' H1 W1 E' (x1.stp E.res.av)
end
end Sn
namespace Sn
open PySem PySem.Spec PyProof.Rows L2
abbrev VF := List D → Rs → (D → Rs → Prop) → Prop
/-- a def's promise by data -/
def spV (K : PySem.W.Frag) (M : Mode) (vf : VF) : Sp := fun vs H Q _ => ∃ (A : Amb) (W : Addr → Prop) (ds : List D) (r : Rs) (Q0 : D → Rs → Prop), Res K A W H r ∧ DwA K A W H vs ds ∧ vf ds r Q0 ∧
  ∀ d r', Q0 d r' → ∀ v H' W', Ext K A W H W' H' → Res K A W' H' r' → M K A H W' H' v d → Q v H'
def vCall (vf : VF) (va : VTA) : VT := fun ρ r Q => va ρ r fun ds r1 => vf ds r1 Q
def startV (N : List Str) (ds : List D) : En := ds.map some ++ List.replicate (N.length - ds.length) none
/-- a mode that asks nothing of the def's parameters -/
class NoneM (M : Mode) : Prop where
  reb : ∀ {K : PySem.W.Frag} {A B : Amb} {W : Addr → Prop} {Hs H : Hp} {v : V} {d : D}, A.Like B → M K A Hs W H v d → M K B Hs W H v d
  non : ∀ {K : PySem.W.Frag} {A : Amb} {W : Addr → Prop} {Hs H : Hp}, M K A Hs W H .non .none
instance : NoneM mF := ⟨fun l h => Dw.reb l.d l.s l.as h, .non⟩
instance : NoneM mB := ⟨fun l h => h.elim (fun h => .inl (Dw.reb l.d l.s l.as h)) fun ⟨a, e, h, u⟩ => .inr ⟨a, e, h.reb l.d l.s l.as, fun z => u ((l.U a).mp z)⟩, .inl .non⟩
instance : NoneM mL := ⟨fun l h => h.elim (fun ⟨m, a, e, h, w, u, n⟩ => .inl ⟨m, a, e, h.reb l.d l.s l.as, w, fun z => u ((l.U a).mp z), n⟩) fun ⟨m, h⟩ => .inr ⟨m, Dw.reb l.d l.s l.as h⟩, .inr ⟨rfl, .non⟩⟩
theorem start_at {N : List Str} {ds : List D} {i : Nat} {d : D} (h : (startV N ds)[i]? = some (some d)) : ds[i]? = some d := by
  unfold startV at h
  by_cases hi : i < ds.length
  · rw [List.getElem?_append_left (by simpa using hi), List.getElem?_map] at h
    cases e : ds[i]? with
    | none => rw [e] at h; cases h
    | some d' => rw [e] at h; cases h; rfl
  · rw [List.getElem?_append_right (by simpa using Nat.le_of_not_lt hi)] at h
    have := List.mem_of_getElem? h
    rw [List.mem_replicate] at this
    cases this.2
theorem env_start {K : PySem.W.Frag} {A : Amb} {W : Addr → Prop} {H : Hp} {N : List Str} {vs : List V} {ds : List D} {r : Rs} (R : Res K A W H r) (h : DwA K A W H vs ds) (hb : A.bo = []) : Env K A W H [] W (start N vs) H (startV N ds) r where
  len := by simp [L2.start, startV, h.len]
  var := fun i d e _ => by
    have e2 := start_at e
    obtain ⟨v, e1, hv⟩ := h.get e2
    refine ⟨v, ?_, hv⟩
    unfold L2.start
    have hi : i < vs.length := (List.getElem?_eq_some_iff.mp e1).1
    rw [List.getElem?_append_left (by simpa using hi), List.getElem?_map, e1]
    rfl
  own := fun i d _ n => absurd n.1 (by simp)
  dis := fun i j a d e n => absurd n.1 (by simp)
  res := R
  rdo := fun i d _ n => absurd n (by simp)
  rin := fun i n => absurd n (by simp)
  bor := fun i a n => absurd n (by rw [hb]; simp)
  bs := .refl
section
variable {P : Program} {w : World} {K : PySem.W.Frag} {mg : Str → Option Value} {base : Heap} {x qual : Str} {st : Stmt} {f : Addr} {fd : FuncData} {N ps : List Str} {k : Nat} {M : Mode} {vf : VF} {vts : VTS} {O' : List Nat}
theorem body_run [NoneM M] {A : Amb} {W : Addr → Prop} {H : Hp} {vs : List V} {ds : List D} {r : Rs} {Q0 : D → Rs → Prop} {Q : VK} (R : Res K A W H r) (hv : DwA K A W H vs ds) (law : vts { nx := fun _ r => Q0 .none r, rt := Q0 } (startV N ds) r)
    (k : ∀ d r', Q0 d r' → ∀ v H' W', Ext K A W H W' H' → Res K A W' H' r' → M K A H W' H' v d → Q v H') : liftS K M [] [] O' vts { nx := fun _ H' => Q .non H', rt := Q } (start N vs) H := by
  have l := A.like []
  refine ⟨A.reb [], W, H, W, startV N ds, r, _, env_start (R.reb l) (hv.reb l.d l.s l.as) rfl, law, fun ρ' r' q σ' H' W' E' _ => ?_, fun d r' q v H' W' x R' m => k d r' q v H' W' (x.reb l.sym) (R'.reb l.sym) (NoneM.reb l.sym m), fun _ _ z => z.elim, fun _ _ z => z.elim⟩
  exact k _ r' q _ H' W' (E'.bs.reb l.sym) (E'.res.reb l.sym) NoneM.non
/-- a def, by its body's reading by data -/
theorem okV [NoneM M] (F : Fun K x qual st f fd) (S : FnScope N ps (defScope st)) (hl : ∀ ds r Q, vf ds r Q → ds.length = ps.length)
    (hb : ∀ (cdv : Value) (A : Around) (outer : List PySem.Env) (s : Shared) (H : Hp) (E : XK), Room k (A.deeper (envOfC qual (defScope st) s.heap.objs.size f cdv)) → VSs (cxOf CX0 P w K mg base N qual (defScope st) f cdv A outer s H E).nox M [] [] O' (defBody st) vts)
    (law : ∀ ds r Q, vf ds r Q → vts { nx := fun _ r => Q .none r, rt := Q } (startV N ds) r) : FnOk P w K mg base CX0 (k + 1) f fd ps (spV K M vf) := by
  refine F.ok S (fun vs H Q E h => ?_) (fun cdv A outer s H vs Q E hr h => ?_)
  · obtain ⟨A, W, ds, r, Q0, R, hv, q, _⟩ := h
    rw [hv.len]
    exact hl _ _ _ q
  · obtain ⟨A1, W, ds, r, Q0, R, hv, q, kk⟩ := h
    exact ⟨_, hb cdv A outer s H E hr, body_run R hv (law _ _ _ q) kk⟩
end
section
variable {X : Cx} {M : Mode} {O : List Nat} {k : Nat} {f : Addr} {fd : FuncData} {ps : List Str} {vf : VF} {x : Str} {p pos : Pos} {e o : Expr} {es : List Expr} {vs : VTA} {vo : VT}
theorem lift_call {sp : Sp} (g : GoodM M) (es : sp = spV X.K M vf) {E : XK} {σ : L2.St} {H : Hp} {Q : VK} (q : liftM X.K O M (vCall vf vs) σ H Q) : tCall sp [] E (liftA X.K O mF vs) σ H Q := by
  subst es
  obtain ⟨A, W0, H0, W, ρ, r, Q0, E, q, k⟩ := q
  refine ⟨A, W0, H0, W, ρ, r, _, E, q, fun ds r1 q1 us H1 W1 x1 E1 m1 => ?_⟩
  show spV X.K M vf (us ++ []) H1 Q _
  rw [List.append_nil]
  exact ⟨A, W1, ds, r1, _, E1.res, m1.dw, q1, fun d r2 q2 v H2 W2 x2 R2 m2 => k d r2 q2 v H2 W2 (x1.trans x2) (E1.ext x2 R2) (g.bk m2 x1.al)⟩
/-- f(e, ..) -/
theorem vm_call (g : GoodM M) (F : FnOk X.prog X.w X.K X.mg X.base CX0 k f fd ps (spV X.K M vf)) (hr : Room k X.A) (hg : Gl X x) (hm : X.mg x = some (.ref f)) (hk : PySem.W.keepIn X.K (.ref f) = true) (hb : Binds X.K fd ps [])
    (ha : VA X O (e :: es) vs) (hdb : (x == ("__debug__" : Str)) = false := by decide) (he : starEach (e :: es) X.env = (false, eval e X.env) :: starEach es X.env := by rfl) (hpl : (backTo pos (starEach es X.env)).any (·.1) = false := by rfl) :
    PE X (.Call (.Name x p) (e :: es) [] pos) (liftM X.K O M (vCall vf vs)) := PE.imp (pe_call F hr hg hm hk hb .nil pass0 ha hdb he hpl) fun _ _ _ q => lift_call g rfl q
theorem ve_call (F : FnOk X.prog X.w X.K X.mg X.base CX0 k f fd ps (spV X.K mF vf)) (hr : Room k X.A) (hg : Gl X x) (hm : X.mg x = some (.ref f)) (hk : PySem.W.keepIn X.K (.ref f) = true) (hb : Binds X.K fd ps [])
    (ha : VA X O (e :: es) vs) (hdb : (x == ("__debug__" : Str)) = false := by decide) (he : starEach (e :: es) X.env = (false, eval e X.env) :: starEach es X.env := by rfl) (hpl : (backTo pos (starEach es X.env)).any (·.1) = false := by rfl) :
    VE X O (.Call (.Name x p) (e :: es) [] pos) (vCall vf vs) := vm_call goodF F hr hg hm hk hb ha hdb he hpl
theorem vm_call0 (g : GoodM M) (F : FnOk X.prog X.w X.K X.mg X.base CX0 k f fd ps (spV X.K M vf)) (hr : Room k X.A) (hg : Gl X x) (hm : X.mg x = some (.ref f)) (hk : PySem.W.keepIn X.K (.ref f) = true) (hb : Binds X.K fd ps [])
    (hdb : (x == ("__debug__" : Str)) = false := by decide) : PE X (.Call (.Name x p) [] [] pos) (liftM X.K O M (vCall vf vNil)) := PE.imp (pe_call0 F hr hg hm hk hb .nil pass0 hdb) fun σ H Q q => by
  obtain ⟨A, W0, H0, W, ρ, r, Q0, E, q, k⟩ := q
  exact ⟨A, W, [], r, _, E.res, .nil, q, fun d r2 q2 v H2 W2 x2 R2 m2 => k d r2 q2 v H2 W2 x2 (E.ext x2 R2) m2⟩
theorem ve_call0 (F : FnOk X.prog X.w X.K X.mg X.base CX0 k f fd ps (spV X.K mF vf)) (hr : Room k X.A) (hg : Gl X x) (hm : X.mg x = some (.ref f)) (hk : PySem.W.keepIn X.K (.ref f) = true) (hb : Binds X.K fd ps [])
    (hdb : (x == ("__debug__" : Str)) = false := by decide) : VE X O (.Call (.Name x p) [] [] pos) (vCall vf vNil) := vm_call0 goodF F hr hg hm hk hb hdb
end
def CallSim (K : PySem.W.Frag) (M : Mode) (r : List V → Hp → VK → Prop) (f : List D → (D → Prop) → Prop) : Prop := ∀ (A : Amb) (W : Addr → Prop) (H : Hp) (rs : Rs) (xs : List V) (ds : List D) (Q0 : D → Prop) (Q : VK), Res K A W H rs → AllM mB K A H W H xs ds → f ds Q0 →
  (∀ d, Q0 d → ∀ v H' W', Ext K A W H W' H' → Res K A W' H' rs → M K A H W' H' v d → Q v H') → r xs H Q
def MtSim (K : PySem.W.Frag) (M : Mode) (T : String) (r : V → List V → Hp → VK → Prop) (f : D → List D → (D → Prop) → Prop) : Prop := ∀ (A : Amb) (W : Addr → Prop) (H : Hp) (rs : Rs) (x : V) (xs : List V) (d : D) (ds : List D) (Q0 : D → Prop) (Q : VK), Res K A W H rs → mB K A H W H x d → AllM mB K A H W H xs ds → f d ds Q0 →
  (∀ d, Q0 d → ∀ v H' W', Ext K A W H W' H' → Res K A W' H' rs → M K A H W' H' v d → Q v H') → r x xs H Q
/-- o.m(e, ..) of a built-in type -/
def vMt (ty : D → Prop) (f : D → List D → (D → Prop) → Prop) (vo : VT) (va : VTA) : VT := fun ρ r Q => vo ρ r fun d r1 => ty d ∧ va ρ r1 fun ds r2 => f d ds fun z => Q z r2
theorem mB.any {K : PySem.W.Frag} {A : Amb} {W : Addr → Prop} {Hs Hs' H : Hp} {v : V} {d : D} (h : mB K A Hs W H v d) : mB K A Hs' W H v d := h
theorem AllM.bB {K : PySem.W.Frag} {A : Amb} {W : Addr → Prop} {Hs Hs' H : Hp} : ∀ {vs : List V} {ds : List D}, AllM mB K A Hs W H vs ds → AllM mB K A Hs' W H vs ds
  | _, _, .nil => .nil
  | _, _, .cons h a => .cons h.any a.bB
theorem AllM.st {M : Mode} (g : GoodM M) {K : PySem.W.Frag} {A : Amb} {W W' : Addr → Prop} {Hs H H' : Hp} (x : Ext K A W H W' H') (av : ∀ a, W a → ¬ A.U a) : ∀ {vs : List V} {ds : List D}, AllM M K A Hs W H vs ds → AllM M K A Hs W' H' vs ds
  | _, _, .nil => .nil
  | _, _, .cons h a => .cons (g.st h x av) (a.st g x av)
/-- what an attribute's type is by data -/
def tyD : String → D → Prop
  | "str", .str _ => True
  | "list", .list _ => True
  | _, _ => False
theorem tyD_is {K : PySem.W.Frag} {A : Amb} {W : Addr → Prop} {Hs H : Hp} {v : V} {d : D} {T : String} (h : mB K A Hs W H v d) (t : tyD T d) : tyV K T v H := by
  unfold tyD at t
  split at t
  · rw [h.str]; rfl
  · obtain ⟨a, xs, rfl, e, _⟩ := h.lst
    exact .inl ⟨rfl, _, SqL.of e⟩
  · exact t.elim
section
variable {X : Cx} {M : Mode} {O : List Nat} {x name : Str} {p pos apos cpos : Pos} {e o : Expr} {es : List Expr} {vs : VTA} {vo : VT} {id T : String} {r : List V → Hp → VK → Prop} {rm : V → List V → Hp → VK → Prop} {f : List D → (D → Prop) → Prop} {fm : D → List D → (D → Prop) → Prop}
theorem lift_cb (g : GoodM M) (s : CallSim X.K M r f) {σ : L2.St} {H : Hp} {Q : VK} (q : liftM X.K O M (vCB f vs) σ H Q) : tCB r (liftA X.K O mB vs) σ H Q := by
  obtain ⟨A, W0, H0, W, ρ, rr, Q0, E, q, k⟩ := q
  refine ⟨A, W0, H0, W, ρ, rr, _, E, q, fun ds r1 q1 us H1 W1 x1 E1 m1 => ?_⟩
  exact s A W1 H1 r1 us ds _ Q E1.res m1.bB q1 fun d hd v H2 W2 x2 R2 m2 => k d r1 hd v H2 W2 (x1.trans x2) (E1.ext x2 R2) (g.bk m2 x1.al)
theorem vm_callB (g : GoodM M) (hc : CallR X (.builtin id) r) (s : CallSim X.K M r f) (hg : Gl X x) (hm : X.mg x = none) (hv : bootBuiltins x = some (.builtin id)) (ha : VAB X O (e :: es) vs) (hn : x ≠ "__name__" := by decide) (hdb : (x == ("__debug__" : Str)) = false := by decide)
    (he : starEach (e :: es) X.env = (false, eval e X.env) :: starEach es X.env := by rfl) (hpl : (backTo pos (starEach es X.env)).any (·.1) = false := by rfl) : PE X (.Call (.Name x p) (e :: es) [] pos) (liftM X.K O M (vCB f vs)) :=
  PE.imp (pe_callB hc hg hm hv ha hn hdb he hpl) fun _ _ _ q => lift_cb g s q
theorem vm_callTy (g : GoodM M) (hc : CallR X (.type T) r) (s : CallSim X.K M r f) (hg : Gl X x) (hm : X.mg x = none) (hv : bootBuiltins x = some (.type T)) (ha : VAB X O (e :: es) vs) (hn : x ≠ "__name__" := by decide) (hdb : (x == ("__debug__" : Str)) = false := by decide)
    (he : starEach (e :: es) X.env = (false, eval e X.env) :: starEach es X.env := by rfl) (hpl : (backTo pos (starEach es X.env)).any (·.1) = false := by rfl) : PE X (.Call (.Name x p) (e :: es) [] pos) (liftM X.K O M (vCB f vs)) :=
  PE.imp (pe_callTy hc hg hm hv ha hn hdb he hpl) fun _ _ _ q => lift_cb g s q
theorem vm_bm (g : GoodM M) (pa : PlainAttrs T) (slot : Slot T name id) (hty : typeOf (.builtin id) = pure (.type "method_descriptor")) (hmt : MtR X id rm) (s : MtSim X.K M T rm fm) (ho : VB X O o vo) (ha : VAB X O (e :: es) vs)
    (hbase : attributeBase o name X.env (eval o X.env) = eval o X.env := by rfl)
    (hfew : ((backTo cpos (starEach (e :: es) X.env)).all (fun x => !x.1) && (backToKw cpos (keywordEach [] X.env)).all (fun x => x.1.isSome)
      && decide ((e :: es).length + ([] : List Keyword).length + (if ([] : List Keyword).isEmpty then 0 else 1) < 30)) = true := by rfl)
    (hline : (apos.endLine == cpos.line) = true := by rfl) (hs : starEach (e :: es) X.env = (false, eval e X.env) :: starEach es X.env := by rfl) (hplain : (backTo cpos (starEach es X.env)).any (·.1) = false := by rfl) :
    PE X (.Call (.Attribute o name apos) (e :: es) [] cpos) (liftM X.K O M (vMt (tyD T) fm vo vs)) := PE.imp (pe_bm pa slot hty hmt ho ha hbase hfew hline hs hplain) fun σ H Q q => by
  obtain ⟨A, W0, H0, W, ρ, rr, Q0, E, q, k⟩ := q
  refine ⟨A, W0, H0, W, ρ, rr, _, E, q, fun d r1 q1 v H1 W1 x1 E1 m1 => ?_⟩
  refine ⟨tyD_is m1 q1.1, A, W0, H0, W1, ρ, r1, _, E1, q1.2, fun ds r2 q2 us H2 W2 x2 E2 m2 => ?_⟩
  exact s A W2 H2 r2 v us d ds _ Q E2.res (goodB.st m1 x2 E1.res.av).any m2.bB q2 fun d hd v H3 W3 x3 R3 m3 => k d r2 hd v H3 W3 ((x1.trans x2).trans x3) (E2.ext x3 R3) (g.bk m3 fun a h => x1.al a (x2.al a h))
end
end Sn
namespace Sn
open PySem PySem.Spec PyProof.Rows L2
def wipeE (ρ : En) : List Nat → En
  | [] => ρ
  | v :: vs => (wipeE ρ vs).set v none
section
variable {K : PySem.W.Frag} {A : Amb} {W0 W W' W2 : Addr → Prop} {H0 H H' H2 : Hp} {O : List Nat} {σ : L2.St} {ρ : En} {r r' : Rs} {p : Addr} {o o' : HO}
theorem Env.wipe (E : Env K A W0 H0 O W σ H ρ r) : ∀ vs : List Nat, (∀ v ∈ vs, Rep O v) → Env K A W0 H0 O W (L2.wipe σ vs) H (wipeE ρ vs) r
  | [], _ => E
  | v :: vs, h => (E.wipe vs fun w hw => h w (List.mem_cons_of_mem _ hw)).drop v none (h v List.mem_cons_self)
/-- a new thing of ours is changed -/
theorem Ext.updNew (x : Ext K A W H W' H') (n : H p = none) (h : H' p = some o) (ho : ∀ ys u, o ≠ .tup ys ∧ o ≠ .frz u (.tup ys)) : Ext K A W H W' (upd H' p o') where
  fr := fun a q u e => by
    rw [upd_ne (ne_of_none e n)]
    exact x.fr a q u e
  al := fun a e => by
    by_cases q : a = p
    · rw [q]; exact n
    · rw [upd_ne q] at e; exact x.al a e
  tp := fun a xs e => sqT_put h ho (x.tp a xs e)
  wk := x.wk
  wn := x.wn
theorem Own.updN {a : Addr} {d : D} (q : Own K A W H a d) (hw : ¬ W p) (h : H p = some o) (ho : ∀ ys u, o ≠ .tup ys ∧ o ≠ .frz u (.tup ys)) (n : a ≠ p) : Own K A W (upd H p o') a d :=
  q.mov (fun _ e => e) (fun b u w e => by rw [upd_ne (fun z => hw (by rw [← z]; exact w))]; exact e) (fun b xs e => sqT_put h ho e) fun u e => by rw [upd_ne n]; exact e
theorem Res.updN (R : Res K A W H r) (hw : ¬ W p) (hu : ¬ A.U p) (h : H p = some o) (ho : ∀ ys u, o ≠ .tup ys ∧ o ≠ .frz u (.tup ys)) : Res K A W (upd H p o') r where
  dr := by
    obtain ⟨⟨l, t, g0, g1, g2⟩, ⟨ns, g3⟩, ⟨ms, g4⟩, g5⟩ := R.dr
    have ne : ∀ {b : Addr}, A.U b → b ≠ p := fun u z => hu (by rw [← z]; exact u)
    exact ⟨⟨l, t, g0, g1, by rw [upd_ne (ne (.inl rfl))]; exact g2⟩, ⟨ns, by rw [upd_ne (ne (.inr (.inl rfl)))]; exact g3⟩, ⟨ms, by rw [upd_ne (ne (.inr (.inr (.inl rfl))))]; exact g4⟩, g5⟩
  sc := R.sc.mov fun sk o q => by rw [upd_ne fun z => hu (by rw [← z]; exact .inr (.inr (.inr (.inr ⟨sk, rfl⟩))))]; exact q
  sl := R.sl
  sg := R.sg
  le := R.le
  ce := fun n a d e1 e2 => (R.ce n a d e1 e2).updN hw h ho fun z => hu (by rw [← z]; exact .inr (.inr (.inr (.inl (List.mem_of_getElem? e1)))))
  nd := R.nd
  na := R.na
  av := R.av
  wa := fun a w e => by
    by_cases q : a = p
    · exact hw (by rw [← q]; exact w)
    · rw [upd_ne q] at e; exact R.wa a w e
end
/-- the items of a comprehension -/
def vLcGo (t : Tgt) (c : VTT) (v : VT) (ρ : En) : List D → Rs → (List D → Rs → Prop) → Prop
  | [], r, Q => Q [] r
  | d :: ds, r, Q => vBind t d ρ fun ρ' => c ρ' r fun b r1 => if b = true then v ρ' r1 fun z r2 => vLcGo t c v ρ ds r2 fun zs r3 => Q (z :: zs) r3 else vLcGo t c v ρ ds r1 Q
def vYes : VTT := fun _ r Q => Q true r
/-- [e for t in i if c]; vs: the comprehension's names -/
def vLc (vs : List Nat) (vi : VTI) (t : Tgt) (c : VTT) (v : VT) : VT := fun ρ r Q => vi ρ r fun ds r1 => ds.length ≤ sizeLine ∧ vLcGo t c v (wipeE ρ vs) ds r1 fun zs r2 => Q (.list zs) r2
def Tgt.In (vs : List Nat) : Tgt → Prop
  | .nm i => i ∈ vs
  | .tp is => ∀ i ∈ is, i ∈ vs
instance (O : List Nat) (t : Tgt) : Decidable (t.In O) := by
  cases t <;> unfold Tgt.In <;> infer_instance
theorem wipe_set {i : Nat} {x : Option V} : ∀ {vs : List Nat} {σ : L2.St}, i ∈ vs → L2.wipe (σ.set i x) vs = L2.wipe σ vs
  | [], _, h => by simp at h
  | v :: vs, σ, h => by
    unfold L2.wipe
    by_cases q : i ∈ vs
    · rw [wipe_set q]
    · have e : i = v := by simpa [q] using h
      subst e
      have key : ∀ (ws : List Nat) (σ : L2.St), i ∉ ws → L2.wipe (σ.set i x) ws = (L2.wipe σ ws).set i x := by
        intro ws
        induction ws with
        | nil => intro σ _; rfl
        | cons w ws ih =>
          intro σ hn
          have hn1 : w ≠ i := fun z => hn (by rw [z]; exact List.mem_cons_self)
          unfold L2.wipe
          rw [ih σ fun z => hn (List.mem_cons_of_mem _ z), List.set_comm _ _ hn1.symm]
      rw [key vs σ q, List.set_set]
section
variable {K : PySem.W.Frag} {A : Amb} {W0 W : Addr → Prop} {H0 H : Hp} {O : List Nat} {σ : L2.St} {ρ : En} {r : Rs} {v : V} {d : D}
theorem bind_namesW {vs : List Nat} : ∀ {is : List Nat} {xs : List V} {ds : List D} {σ : L2.St} {ρ : En} {Q : L2.St → Hp → Prop}, Env K A W0 H0 O W σ H ρ r → (∀ i ∈ is, i ∉ O) → (∀ i ∈ is, i ∈ vs) → DwA K A W H xs ds → ds.length = is.length → (∀ σ', L2.wipe σ' vs = L2.wipe σ vs → Env K A W0 H0 O W σ' H (setAll ρ is ds) r → Q σ' H) → gNames is xs σ H Q
  | [], xs, ds, σ, ρ, Q, E, hO, hv, h, hl, k => by
    cases h with
    | nil => exact ⟨rfl, k σ rfl E⟩
    | cons _ _ => simp at hl
  | i :: is, xs, ds, σ, ρ, Q, E, hO, hv, h, hl, k => by
    cases h with
    | nil => simp at hl
    | cons h1 h2 =>
      refine ⟨_, _, rfl, ?_⟩
      refine bind_namesW (E.set (hO i (List.mem_cons_self ..)) h1) (fun j hj => hO j (List.mem_cons_of_mem _ hj)) (fun j hj => hv j (List.mem_cons_of_mem _ hj)) h2 (by simpa using hl) fun σ' e E' => k σ' (by rw [e, wipe_set (hv i (List.mem_cons_self ..))]) E'
theorem bind_goW {t : Tgt} {vs : List Nat} {Q0 : En → Prop} {Q : L2.St → Hp → Prop} (E : Env K A W0 H0 O W σ H ρ r) (hO : t.ok O) (hv : t.In vs) (h : Dw K A W H v d) (q : vBind t d ρ Q0) (k : ∀ ρ' σ', Q0 ρ' → L2.wipe σ' vs = L2.wipe σ vs → Env K A W0 H0 O W σ' H ρ' r → Q σ' H) : gOf K t v σ H Q := by
  cases t with
  | nm i => exact k _ _ q (wipe_set hv) (E.set hO h)
  | tp is =>
    obtain ⟨ds, rfl, hl, q⟩ := q
    cases h with
    | tup h hx => exact ⟨_, _, rfl, h, by rw [hx.len, hl], bind_namesW E hO hv hx hl fun σ' e E' => k _ σ' q e E'⟩
end
theorem wipe_wipe (σ : L2.St) (vs : List Nat) : L2.wipe (L2.wipe σ vs) vs = L2.wipe σ vs := by
  have key : ∀ ws : List Nat, (∀ i ∈ ws, i ∈ vs) → L2.wipe (L2.wipe σ ws) vs = L2.wipe σ vs := by
    intro ws
    induction ws with
    | nil => intro _; rfl
    | cons w ws ih =>
      intro h
      rw [show L2.wipe σ (w :: ws) = (L2.wipe σ ws).set w none from rfl, wipe_set (h w List.mem_cons_self), ih fun i hi => h i (List.mem_cons_of_mem _ hi)]
  exact key vs fun _ h => h
section
variable {X : Cx} {O : List Nat} {elt tg iter : Expr} {ifs : List Expr} {scope : Scope} {own : List (Str × Nat)} {pos : Pos} {vi : VTI} {t : Tgt} {c : VTT} {v : VT}
theorem lstNT {xs : List V} : ∀ ys u, HO.lst xs ≠ .tup ys ∧ HO.lst xs ≠ .frz u (.tup ys) := fun _ _ => ⟨fun z => (by cases z), fun z => (by cases z)⟩
theorem lc_lift {vs : List Nat} {σ : L2.St} {H : Hp} {Q : VK} (hO : t.ok O) (hv : t.In vs) (hW : ∀ v ∈ vs, Rep O v) (q : liftM X.K O mL (vLc vs vi t c v) σ H Q) : tLc (liftI X.K O vi) (gOf X.K t) (liftT X.K O c) (liftM X.K O mF v) vs σ H Q := by
  obtain ⟨A, W0, H0, W, ρ, r, Q0, E, q, k⟩ := q
  refine ⟨A, W0, H0, W, ρ, r, _, E, q, fun ds r1 q1 J H1 W1 x1 E1 wk => ?_⟩
  obtain ⟨hlen, q1⟩ := q1
  intro p hp
  obtain ⟨G, Y, w, hG, hY⟩ := wk
  have hU : ¬ A.U p := E1.res.uNew hp
  refine lc_it w (fun i H' => ∃ r' W' acc zs, Ext X.K A W1 H1 W' H' ∧ Res X.K A W' H' r' ∧ H' p = some (.lst acc) ∧ acc.length ≤ i ∧ DwA X.K A W' H' acc zs ∧ ¬ W' p ∧ vLcGo t c v (wipeE ρ vs) (ds.drop i) r' fun zs' r2 => Q0 (.list (zs ++ zs')) r2) ?_ ?_ ?_ ?_
  · exact ⟨r1, W1, [], [], Ext.new hp, E1.res.same (same_new hp), upd_same, Nat.le_refl _, .nil, fun z => E1.res.wa p z hp, by rw [List.drop_zero]; exact q1⟩
  · rintro i H' _ ⟨r', W', acc, zs, x', R', _⟩
    exact hG W' H' (x'.stp E1.res.av)
  · rintro i y H' H2 hi ⟨r', W', acc, zs, x', R', hacc, hl, hz, nW, q2⟩ hy
    obtain ⟨sm, hd⟩ := hY i H' W' y H2 ds[i] (List.getElem?_eq_getElem hi) (x'.stp E1.res.av) hy
    rw [List.drop_eq_getElem_cons hi] at q2
    have E2 := ((E1.ext x' R').same sm).wipe vs hW
    refine bind_goW E2 hO hv hd q2 fun ρ3 σ3 q3 e3 E3 => ⟨by rw [e3, wipe_wipe], ?_⟩
    refine ⟨A, W0, H0, W', ρ3, r', _, E3, q3, fun b r4 q4 H4 W4 x4 E4 => ?_⟩
    have x02 : Ext X.K A W1 H1 W' H2 := x'.trans (Ext.same sm)
    have h2 : H2 p = some (.lst acc) := sm _ _ hacc
    have h4 : H4 p = some (.lst acc) := x4.fr _ _ hU h2
    have n4 : ¬ W4 p := fun z => (x4.wn p z).elim nW fun z => by rw [z] at h2; cases h2
    cases b with
    | true =>
      refine iteT ⟨A, W0, H0, W4, ρ3, r4, _, E4, q4, fun z r5 q5 u H5 W5 x5 E5 m5 => ?_⟩
      have h5 : H5 p = some (.lst acc) := x5.fr _ _ hU h4
      have n5 : ¬ W5 p := fun z => (x5.wn p z).elim n4 fun z => by rw [z] at h4; cases h4
      refine ⟨acc, h5, by omega, r5, W5, acc ++ [u], zs ++ [z], ((x02.trans x4).trans x5).updNew hp h5 lstNT, E5.res.updN n5 hU h5 lstNT, upd_same, by rw [List.length_append]; show acc.length + 1 ≤ i + 1; omega, ?_, n5, ?_⟩
      · have hz5 : DwA X.K A W5 H5 acc zs := ((hz.ext (Ext.same sm) R'.av).ext x4 E3.res.av).ext x5 E4.res.av
        exact (hz5.app (.cons m5 .nil)).mov (fun _ e => e) (fun b u w e => by rw [upd_ne (fun z => n5 (by rw [← z]; exact w))]; exact e) fun b xs e => sqT_put h5 lstNT e
      · simpa using q5
    | false =>
      refine iteF ⟨r4, W4, acc, zs, x02.trans x4, E4.res, h4, by omega, ((hz.ext (Ext.same sm) R'.av).ext x4 E3.res.av), n4, q4⟩
  · rintro H' ⟨r', W', acc, zs, x', R', hacc, hl, hz, nW, q2⟩
    rw [List.drop_length] at q2
    have q2 : Q0 (.list (zs ++ [])) r' := q2
    rw [List.append_nil] at q2
    exact k _ r' q2 _ H' W' (x1.trans x') (E1.ext x' R') (.inl ⟨rfl, p, rfl, .lst hacc hz, nW, hU, x1.al p hp⟩)
theorem vl_lc (hc : X.calm = true) (hN : X.N.Nodup) (hi : VI X O tg iter vi) (ok : BlkOk X.N X.env.scope scope own)
    (hg : ∀ (s : Shared) (H : Hp) (C : Addr) (cl : List (Str × Addr)) (fp : List Addr), PG (X.blk s H scope (compEnvC scope cl C X.env) fp) tg (gOf X.K t)) (ht : ∀ (s : Shared) (H : Hp) (C : Addr) (cl : List (Str × Addr)) (fp : List Addr), PTs (X.blk s H scope (compEnvC scope cl C X.env) fp) ifs (liftT X.K O c))
    (he : ∀ (s : Shared) (H : Hp) (C : Addr) (cl : List (Str × Addr)) (fp : List Addr), VE (X.blk s H scope (compEnvC scope cl C X.env) fp) O elt v) (hO : t.ok O := by decide) (hv : t.In (own.map (·.2)) := by decide) (hW : ∀ v ∈ own.map (·.2), Rep O v := by decide) (hs : ∀ x, foldedSetIterable iter X.env x = pure x := by intro _; rfl) :
    VL X O (.ListComp elt [⟨tg, iter, ifs, 0⟩] scope pos) (vLc (own.map (·.2)) vi t c v) := PE.imp (pe_lc (te := liftM X.K O mF v) hc hN hi ok hg ht he hs) fun _ _ _ q => lc_lift hO hv hW q
theorem vpts_nil : PTs X [] (liftT X.K O vYes) := ⟨fun pins s σ H Q I q => pts_nil.run pins s σ H Q I (by
  obtain ⟨A, W0, H0, W, ρ, r, Q0, E, q, k⟩ := q
  exact k true r q H W .refl E)⟩
theorem vpts_one {e : Expr} (h : VTs X O e c) : PTs X [e] (liftT X.K O c) := pts_one h
end
end Sn
namespace Sn
open PySem PySem.Spec PyProof.Rows L2
section
variable {X : Cx} {O : List Nat} {x : Str} {p pos apos cpos : Pos} {e a b o : Expr} {es : List Expr} {vs : VTA} {v1 v2 vo : VT}
variable {K : PySem.W.Frag}
theorem DwA.ofStrs {A : Amb} {W : Addr → Prop} {H : Hp} : ∀ ys : List Str, DwA K A W H (ys.map V.str) (ys.map PyData.str)
  | [] => .nil
  | y :: ys => .cons (.str y) (DwA.ofStrs ys)
/-- len -/
def dLen : List D → (D → Prop) → Prop
  | [.list xs], Q => Q (.int xs.length)
  | [.tuple xs], Q => Q (.int xs.length)
  | [.str z], Q => z.length ≤ sizeLine ∧ Q (.int z.length)
  | [.dict kvs], Q => isTok kvs = false ∧ Q (.int kvs.length)
  | _, _ => False
/-- len of a dict, locked or not -/
theorem call_lenR : CallR X (.builtin "len") (fun xs H Q => ∃ a kvs, xs = [V.ref a] ∧ IsK H a kvs ∧ Q (.int kvs.length) H) := by
  intro pins s σ H xs us Q I r h
  obtain ⟨a, kvs, rfl, ha, q⟩ := h
  obtain ⟨u, rfl, ru⟩ := vals1 r
  cases ru
  exact d_len I ha fun t s' I' => ⟨.int kvs.length, H, I', ⟨t, rfl⟩, q⟩
theorem sim_len : CallSim K mL (fun xs H Q => ((∃ p ys, xs = [.ref p] ∧ (SqL K H p ys ∨ SqT K H p ys) ∧ Q (.int ys.length) H) ∨ (∃ z, xs = [.str z] ∧ z.length ≤ sizeLine ∧ Q (.int z.length) H)) ∨ ∃ a kvs, xs = [V.ref a] ∧ IsK H a kvs ∧ Q (.int kvs.length) H) dLen := by
  intro A W H rs xs ds Q0 Q R m q k
  unfold dLen at q
  split at q
  · cases m with
    | cons m1 m2 =>
      cases m2
      obtain ⟨a, ys, rfl, h, g⟩ := m1.lst
      exact .inl (.inl ⟨a, ys, rfl, .inl (SqL.of h), by rw [g.len]; exact flat_go R k q rfl (.int _)⟩)
  · cases m with
    | cons m1 m2 =>
      cases m2
      obtain ⟨a, ys, rfl, h, g⟩ := m1.tup
      exact .inl (.inl ⟨a, ys, rfl, .inr h, by rw [g.len]; exact flat_go R k q rfl (.int _)⟩)
  · cases m with
    | cons m1 m2 =>
      cases m2
      exact .inl (.inr ⟨_, by rw [m1.str], q.1, flat_go R k q.2 rfl (.int _)⟩)
  · cases m with
    | cons m1 m2 =>
      cases m2
      obtain ⟨a, ys, rfl, h, g⟩ := m1.dic q.1
      exact .inr ⟨a, ys, rfl, h, by rw [g.len]; exact flat_go R k q.2 rfl (.int _)⟩
  · exact q.elim
theorem ve_len (hg : Gl X "len") (hm : X.mg "len" = none) (ha : VAB X O [a] vs) (he : starEach [a] X.env = (false, eval a X.env) :: starEach [] X.env := by rfl) (hpl : (backTo pos (starEach [] X.env)).any (·.1) = false := by rfl) : VL X O (.Call (.Name "len" p) [a] [] pos) (vCB dLen vs) :=
  vm_callB goodL ((call_len_seq.or call_len_str).or call_lenR) sim_len hg hm PySem.boot_len ha (he := he) (hpl := hpl)
theorem DwK.noTok {A : Amb} {W : Addr → Prop} {H : Hp} {xs : List (Key × V)} {ds : List (D × D)} (h : DwK K A W H xs ds) : isTok ds = false := by
  cases h with
  | nil => rfl
  | cons h r => rename_i k _ _ _ _; cases k <;> rfl
theorem Dw.scrIs {A : Amb} {W : Addr → Prop} {H : Hp} {v : V} (h : Dw K A W H v dScr) : v = .ref A.s := by
  have g : ∀ {d : D}, Dw K A W H v d → d = dScr → v = .ref A.s := by
    intro d h e
    cases h <;> first | rfl | (cases e; done) | skip
    rename_i q
    have := q.noTok
    injection e with e
    rw [e] at this
    cases this
  exact g h rfl
theorem Dw.stIs {A : Amb} {W : Addr → Prop} {H : Hp} {v : V} (h : Dw K A W H v dSt) : v = .ref A.d := by
  have g : ∀ {d : D}, Dw K A W H v d → d = dSt → v = .ref A.d := by
    intro d h e
    cases h <;> first | rfl | (cases e; done) | skip
    rename_i q
    have := q.noTok
    injection e with e
    rw [e] at this
    cases this
  exact g h rfl
/-- the script's length -/
def vLenScr (v : VT) : VT := fun ρ r Q => v ρ r fun d r1 => d = dScr ∧ Q (.int r1.sl) r1
theorem ve_lenScr (hg : Gl X "len") (hm : X.mg "len" = none) (ha : VE X O a v1) (he : starEach [a] X.env = (false, eval a X.env) :: starEach [] X.env := by rfl) (hpl : (backTo pos (starEach [] X.env)).any (·.1) = false := by rfl) : VL X O (.Call (.Name "len" p) [a] [] pos) (vLenScr v1) :=
  PE.imp (pe_callB call_len_seq hg hm PySem.boot_len (pa_cons ha pa_nil he) (he := he) (hpl := hpl)) fun σ H Q q => by
  obtain ⟨A, W0, H0, W, ρ, r, Q0, E, q, k⟩ := q
  refine ⟨A, W0, H0, W, ρ, r, _, E, q, fun d r1 q1 v H1 W1 x1 E1 m1 => ?_⟩
  obtain ⟨rfl, q1⟩ := q1
  obtain rfl := Dw.scrIs m1
  refine ⟨A.s, _, rfl, .inl E1.res.sc.seq, ?_⟩
  rw [List.length_map, ← E1.res.sl]
  exact k _ r1 q1 _ H1 W1 x1 E1 (.inr ⟨rfl, .int _⟩)
/-- tuple, list of a list or a tuple -/
def dTupOf : List D → (D → Prop) → Prop
  | [.list xs], Q => Q (.tuple xs)
  | [.tuple xs], Q => Q (.tuple xs)
  | _, _ => False
def dListOf : List D → (D → Prop) → Prop
  | [.list xs], Q => Q (.list xs)
  | [.tuple xs], Q => Q (.list xs)
  | _, _ => False
theorem sim_list : CallSim K mL (fun xs H Q => ∃ p ys, xs = [.ref p] ∧ (SqL K H p ys ∨ SqT K H p ys) ∧ ∀ l, H l = none → Q (.ref l) (upd H l (.lst ys))) dListOf := by
  intro A W H rs xs ds Q0 Q R m q k
  unfold dListOf at q
  split at q
  · cases m with
    | cons m1 m2 =>
      cases m2
      obtain ⟨a, ys, rfl, h, g⟩ := m1.lst
      exact ⟨a, ys, rfl, .inl (SqL.of h), fun l hl => new_go R k q g hl⟩
  · cases m with
    | cons m1 m2 =>
      cases m2
      obtain ⟨a, ys, rfl, h, g⟩ := m1.tup
      exact ⟨a, ys, rfl, .inr h, fun l hl => new_go R k q g hl⟩
  · exact q.elim
theorem ve_list (hg : Gl X "list") (hm : X.mg "list" = none) (ha : VAB X O [a] vs) (he : starEach [a] X.env = (false, eval a X.env) :: starEach [] X.env := by rfl) (hpl : (backTo pos (starEach [] X.env)).any (·.1) = false := by rfl) : VL X O (.Call (.Name "list" p) [a] [] pos) (vCB dListOf vs) :=
  vm_callTy goodL call_list_of sim_list hg hm (by decide +kernel) ha (he := he) (hpl := hpl)
def dMin2 : List D → (D → Prop) → Prop
  | [.int i, .int j], Q => Q (.int (if j < i then j else i))
  | _, _ => False
theorem ve_min2 (hc : X.calm = true) (hg : Gl X "min") (hm : X.mg "min" = none) (ha : VAB X O [a, b] vs) (he : starEach [a, b] X.env = (false, eval a X.env) :: starEach [b] X.env := by rfl) (hpl : (backTo pos (starEach [b] X.env)).any (·.1) = false := by rfl) : VL X O (.Call (.Name "min" p) [a, b] [] pos) (vCB dMin2 vs) := by
  refine vm_callB goodL (call_min2 hc) ?_ hg hm (by decide +kernel) ha (he := he) (hpl := hpl)
  intro A W H rs xs ds Q0 Q R m q k
  unfold dMin2 at q
  split at q
  · cases m with
    | cons m1 m2 =>
      cases m2 with
      | cons m2 m3 =>
        cases m3
        exact ⟨_, _, by rw [m1.int, m2.int], flat_go R k q rfl (.int _)⟩
  · exact q.elim
/-- isinstance(x, T), T a built-in type -/
def tyN : D → Option String
  | .none => some "NoneType"
  | .bool _ => some "bool"
  | .int _ => some "int"
  | .str _ => some "str"
  | .list _ => some "list"
  | .tuple _ => some "tuple"
  | .dict kvs => if isTok kvs = true then none else some "dict"
def isTy1 (T n : String) : Bool := n == T || (T == "int" && n == "bool")
def tyNames : List String := ["NoneType", "bool", "int", "str", "list", "tuple", "dict"]
def kitAllB (T : String) : Bool := tyNames.all fun n => L2.kitB n T == some (isTy1 T n)
def vIsi (T : String) (v : VT) : VT := fun ρ r Q => v ρ r fun d r1 => ∃ n, tyN d = some n ∧ Q (.bool (isTy1 T n)) r1
theorem tyx_of {A : Amb} {W : Addr → Prop} {Hs H : Hp} {v : V} {d : D} {n : String} (h : mB K A Hs W H v d) (e : tyN d = some n) : TyX K H v (.type n) := by
  rcases h with h | ⟨a, rfl, h, _⟩
  · cases h with
    | non => cases e; exact .base .non
    | bl b => cases e; exact .base (.bl b)
    | int i => cases e; exact .base (.int i)
    | str z => cases e; exact .base (.str z)
    | tup h q =>
      cases e
      rcases h with (h | ⟨o, h⟩) | ⟨o, its, n, h1, h2, _⟩
      · exact .base (.tup h)
      · exact .fTuple h
      · exact .kTuple h1 h2
    | lst w h q => cases e; exact .base (.lst h)
    | @dk a xs ds w h q =>
      have : n = "dict" := by
        by_cases hk : isTok ds = true
        · simp [tyN, hk] at e
        · simp [tyN, hk] at e
          exact e.symm
      subst this
      rcases h with h | ⟨o, h⟩
      · exact .base (.dK h)
      · exact .fDict h
    | st => cases e
    | scr => cases e
    | cell _ => cases e
    | obj _ => cases e
    | ins => cases e
  · refine h.cas (fun g => ?_) fun o xs ds z g q => ?_
    rotate_left
    · clear h
      subst z
      have : n = "dict" := by
        by_cases hk : isTok ds = true
        · simp [tyN, hk] at e
        · simp [tyN, hk] at e
          exact e.symm
      subst this
      exact .fDict g
    clear h
    cases g with
    | lst h q => cases e; exact .base (.lst h)
    | @dk xs ds h q =>
      have : n = "dict" := by
        by_cases hk : isTok ds = true
        · simp [tyN, hk] at e
        · simp [tyN, hk] at e
          exact e.symm
      subst this
      exact .base (.dK h)
    | ins => cases e
theorem tyN_mem {d : D} {n : String} (e : tyN d = some n) : n ∈ tyNames := by
  cases d <;> simp only [tyN] at e
  all_goals first | (cases e; decide) | skip
  split at e
  · cases e
  · cases e; decide
theorem ve_isi {T : Str} {Ts : String} (hk : kitAllB Ts = true) (hT : bootBuiltins T = some (.type Ts)) (hg : Gl X "isinstance") (hm : X.mg "isinstance" = none) (hgT : Gl X T) (hmT : X.mg T = none) (ha : VB X O a v1) {pT : Pos} (hn : T ≠ "__name__" := by decide) (hd : (T == ("__debug__" : Str)) = false := by decide)
    (hs1 : starEach (.Name T pT :: []) X.env = (false, eval (.Name T pT) X.env) :: starEach [] X.env := by rfl) (he : starEach [a, .Name T pT] X.env = (false, eval a X.env) :: starEach [.Name T pT] X.env := by rfl) (hpl : (backTo pos (starEach [.Name T pT] X.env)).any (·.1) = false := by rfl) :
    VL X O (.Call (.Name "isinstance" p) [a, .Name T pT] [] pos) (vIsi Ts v1) := by
  have ht : PE X (.Name T pT) (tC (.ty Ts)) := pe_bltn hgT hmT hT rfl hn hd
  refine PE.imp (pe_callB call_isi hg hm (by decide +kernel) (pa_cons ha (pa_cons ht pa_nil hs1) he) (he := he) (hpl := hpl)) fun σ H Q q => ?_
  obtain ⟨A, W0, H0, W, ρ, r, Q0, E, q, k⟩ := q
  refine ⟨A, W0, H0, W, ρ, r, _, E, q, fun d r1 q1 v H1 W1 x1 E1 m1 => ?_⟩
  obtain ⟨n, hn, q1⟩ := q1
  refine ⟨v, .ty Ts, .type n, .type Ts, _, rfl, .ty Ts, tyx_of m1 hn, kit_ty ?_, k _ r1 q1 _ H1 W1 x1 E1 (.inr ⟨rfl, .bl _⟩)⟩
  unfold kitAllB at hk
  have := List.all_eq_true.mp hk n (tyN_mem hn)
  exact eq_of_beq this
theorem mB.dpL {A : Amb} {W : Addr → Prop} {Hs H : Hp} {v : V} {d : D} (h : mB K A Hs W H v d) (e : d.canLay0 = true) : Dp K H v d := by
  rcases h with h | ⟨a, rfl, h, _⟩
  · exact h.dp e
  · refine h.cas (fun g => ?_) fun _ _ _ z _ _ => by rw [z] at e; simp [PyData.canLay0] at e
    clear h
    cases g with
    | lst h q => exact .lst (.inl (.inl h)) (q.dp (by simpa [PyData.canLay0] using e))
    | dk h q => simp [PyData.canLay0] at e
    | ins => simp [dIns, PyData.canLay0] at e
def dSplit : D → List D → (D → Prop) → Prop
  | .str z, [.str y], Q => (y.length == 0) = false ∧ z.length + 2 ≤ sizeLine ∧ Q (.list ((Txt.split z y).map .str))
  | _, _, _ => False
section
variable {es : List Expr}
theorem ve_split (ho : VB X O o vo) (ha : VAB X O [a] vs) (hbase : attributeBase o "split" X.env (eval o X.env) = eval o X.env := by rfl)
    (hfew : ((backTo cpos (starEach [a] X.env)).all (fun x => !x.1) && (backToKw cpos (keywordEach [] X.env)).all (fun x => x.1.isSome) && decide (([a] : List Expr).length + ([] : List Keyword).length + (if ([] : List Keyword).isEmpty then 0 else 1) < 30)) = true := by rfl)
    (hline : (apos.endLine == cpos.line) = true := by rfl) (hs : starEach [a] X.env = (false, eval a X.env) :: starEach [] X.env := by rfl) (hplain : (backTo cpos (starEach [] X.env)).any (·.1) = false := by rfl) :
    VL X O (.Call (.Attribute o "split" apos) [a] [] cpos) (vMt (tyD "str") dSplit vo vs) := by
  refine vm_bm goodL PySem.F.plainAttrs_str PySem.F.slot_str_split PySem.F.type_str_split mt_split ?_ ho ha hbase hfew hline hs hplain
  intro A W H rs x xs d ds Q0 Q R m ma q k
  unfold dSplit at q
  split at q
  · cases ma with
    | cons m1 m2 =>
      cases m2
      exact ⟨_, _, m.str, by rw [m1.str], q.1, q.2.1, fun p hp => new_go R k q.2.2 (DwA.ofStrs _) hp⟩
  · exact q.elim
end
/-- repr of data -/
def dRepr : List D → (D → Prop) → Prop := fun ds Q => ∃ d, ds = [d] ∧ d.canLay0 = true ∧ d.showable = true ∧ d.depth ≤ 64 ∧ d.shown.length ≤ sizeLine ∧ Q (.str d.shown)
theorem call_reprV (hgu : X.A.guards = some []) (hu : X.A.units + 70 < cLine) : CallR X (.builtin "repr") (fun xs H Q => ∃ (v : V) (d : PyData), xs = [v] ∧ Dp X.K H v d ∧ d.showable = true ∧ d.hasDict = false ∧ d.depth ≤ 64 ∧ d.shown.length ≤ sizeLine ∧ Q (.str d.shown) H) := by
  intro pins s σ H xs us Q I r h
  obtain ⟨v, d, rfl, hD, hs, hn, hd, hz, q⟩ := h
  have byRef : ∀ a, v = .ref a → wpAny (model X.prog X.w) X.A (call (.builtin "repr") us) (EP X pins σ Q) X.xe s := fun a e => by
    subst e
    exact call_repr hgu hu pins s σ H _ us Q I r ⟨a, d, rfl, hD, hs, hn, hd, hz, q⟩
  obtain ⟨u, rfl, rx⟩ := vals1 r
  cases hD with
  | non =>
    cases rx
    exact PySem.P.repr_of_none ⟨.str _, H, I.tok _, ⟨_, rfl⟩, q⟩
  | bl b =>
    cases rx
    exact PySem.P.repr_of_bool ⟨.str _, H, I.tok _, ⟨_, rfl⟩, q⟩
  | int i =>
    obtain ⟨t, rfl⟩ := rx
    exact PySem.P.repr_of_int (by simpa [PyData.showable] using hs) ⟨.str _, H, I.tok _, ⟨_, rfl⟩, q⟩
  | str x =>
    obtain ⟨t, rfl⟩ := rx
    exact PySem.P.repr_of_str ⟨.str _, H, I.tok _, ⟨_, rfl⟩, q⟩ hz
  | _ => exact byRef _ rfl
theorem ve_repr (hgu : X.A.guards = some []) (hu : X.A.units + 70 < cLine) (hg : Gl X "repr") (hm : X.mg "repr" = none) (ha : VAB X O [a] vs) (he : starEach [a] X.env = (false, eval a X.env) :: starEach [] X.env := by rfl) (hpl : (backTo pos (starEach [] X.env)).any (·.1) = false := by rfl) : VL X O (.Call (.Name "repr" p) [a] [] pos) (vCB dRepr vs) := by
  refine vm_callB goodL (call_reprV hgu hu) ?_ hg hm (by decide +kernel) ha (he := he) (hpl := hpl)
  intro A W H rs xs ds Q0 Q R m q k
  obtain ⟨d, rfl, h1, h2, h4, h5, q⟩ := q
  cases m with
  | cons m1 m2 =>
    cases m2
    exact ⟨_, d, rfl, m1.dpL h1, h2, PyData.hasDict_of_canLay _ h1, h4, h5, flat_go R k q rfl (.str _)⟩
/-- all, any -/
def dAll : List D → (D → Prop) → Prop := fun ds Q => ∃ bs : List Bool, ds = [.list (bs.map .bool)] ∧ Q (.bool (bs.all id))
theorem DwA.bools {A : Amb} {W : Addr → Prop} {H : Hp} : ∀ {ys : List Bool} {xs : List V}, DwA K A W H xs (ys.map PyData.bool) → xs = ys.map V.bl
  | [], _, .nil => rfl
  | y :: ys, _, .cons h a => by cases h; rw [a.bools]; rfl
theorem ve_all (hc : X.calm = true) (hg : Gl X "all") (hm : X.mg "all" = none) (ha : VAB X O [a] vs) (he : starEach [a] X.env = (false, eval a X.env) :: starEach [] X.env := by rfl) (hpl : (backTo pos (starEach [] X.env)).any (·.1) = false := by rfl) : VL X O (.Call (.Name "all" p) [a] [] pos) (vCB dAll vs) := by
  refine vm_callB goodL (cr_all hc) ?_ hg hm (by decide +kernel) ha (he := he) (hpl := hpl)
  intro A W H rs xs ds Q0 Q R m q k
  obtain ⟨bs, rfl, q⟩ := q
  cases m with
  | cons m1 m2 =>
    cases m2
    obtain ⟨b, ys, rfl, h, g⟩ := m1.lst
    obtain rfl := g.bools
    exact ⟨b, bs, rfl, SqL.of h, flat_go R k q rfl (.bl _)⟩
end
end Sn
namespace Sn
open PySem PySem.Spec PyProof.Rows L2
theorem hu65 {A : Around} {k : Nat} (hr : Room k A) : A.units + 65 < cLine := by have := hr.un; omega
section
variable {X : Cx} {M : Mode} {B O O' : List Nat} {x y z : Str} {i j l : Nat} {p pos apos cpos pt px py pz : Pos} {e a b c o : Expr} {es : List Expr} {vs : VTA} {v1 v2 v3 vo : VT}
variable {K : PySem.W.Frag}
theorem ve_gI {n : Int} (hm : ∃ t, X.mg x = some (.int n t)) (hg : Gl X x := by rfl) (hd : (x == ("__debug__" : Str)) = false := by decide) : VL X O (.Name x p) (vC (.int n)) :=
  hm.elim fun _ hm => ve_c (v := .int n) (pe_glob hg hm ⟨_, rfl⟩ hd) (fun _ _ _ => .int n) rfl
theorem ve_gT {a : Addr} {xs : List V} {ds : List D} (hm : X.mg x = some (.ref a)) (hq : ∀ H, SqT X.K H a xs) (hd : ∀ A W H, DwA X.K A W H xs ds) (hg : Gl X x := by rfl) (hdb : (x == ("__debug__" : Str)) = false := by decide) : VE X O (.Name x p) (vC (.tuple ds)) :=
  ve_cF (v := .ref a) (pe_glob hg hm rfl hdb) fun A W H => .tup (hq H) (hd A W H)
def vPar2 (i j : Nat) (va : VTA) : VTS := fun N ρ r => va ρ r fun ds r1 => ∃ d e, ds = [d, e] ∧ N.nx ((ρ.set i (some d)).set j (some e)) r1
def vPar3 (i j l : Nat) (va : VTA) : VTS := fun N ρ r => va ρ r fun ds r1 => ∃ d e f, ds = [d, e, f] ∧ N.nx (((ρ.set i (some d)).set j (some e)).set l (some f)) r1
theorem vs_par2 {kt k2 pt2} (hc : X.calm = true) (hN : X.N.Nodup) (hi : X.N[i]? = some x) (hj : X.N[j]? = some y) (hij : i ≠ j)
    (hx : X.env.scope.names.lookup x = some .local) (hy : X.env.scope.names.lookup y = some .local) (ha : VA X O [a, b] vs)
    (hw : swappedStores [.Tuple [.Name x px, .Name y py] kt pt] (.Tuple [a, b] k2 pt2) X.env = pure (some [x, y])) (ni : i ∉ O := by decide) (nj : j ∉ O := by decide)
    (hs : swapsWithSole [.Tuple [.Name x px, .Name y py] kt pt] (.Tuple [a, b] k2 pt2) pos.line X.env = pure false := by rfl) :
    VS X M B O O (.Assign [.Tuple [.Name x px, .Name y py] kt pt] (.Tuple [a, b] k2 pt2) pos) (vPar2 i j vs) := PS.imp (ps_par hc hN hi hj hij hx hy ha hw hs) fun D σ H q => by
  obtain ⟨A, W0, H0, W, ρ, r, N, E, q, kn, kr, kb, kc⟩ := q
  refine ⟨A, W0, H0, W, ρ, r, _, E, q, fun ds r1 q1 us H1 W1 x1 E1 m1 => ?_⟩
  obtain ⟨d, e, rfl, q1⟩ := q1
  cases m1 with
  | cons h1 m1 =>
    cases m1 with
    | cons h2 m1 =>
      cases m1
      exact ⟨_, _, rfl, kn _ r1 q1 _ H1 W1 ((E1.set ni h1).set nj h2) (x1.stp E.res.av)⟩
theorem vs_par3 {kt k2 pt2} (hc : X.calm = true) (hN : X.N.Nodup) (hi : X.N[i]? = some x) (hj : X.N[j]? = some y) (hl : X.N[l]? = some z) (hij : i ≠ j) (hil : i ≠ l) (hjl : j ≠ l)
    (hx : X.env.scope.names.lookup x = some .local) (hy : X.env.scope.names.lookup y = some .local) (hz : X.env.scope.names.lookup z = some .local) (ha : VA X O [a, b, c] vs)
    (hw : swappedStores [.Tuple [.Name x px, .Name y py, .Name z pz] kt pt] (.Tuple [a, b, c] k2 pt2) X.env = pure (some [x, y, z])) (ni : i ∉ O := by decide) (nj : j ∉ O := by decide) (nl : l ∉ O := by decide)
    (hs : swapsWithSole [.Tuple [.Name x px, .Name y py, .Name z pz] kt pt] (.Tuple [a, b, c] k2 pt2) pos.line X.env = pure false := by rfl) :
    VS X M B O O (.Assign [.Tuple [.Name x px, .Name y py, .Name z pz] kt pt] (.Tuple [a, b, c] k2 pt2) pos) (vPar3 i j l vs) := PS.imp (ps_par3 hc hN hi hj hl hij hil hjl hx hy hz ha hw hs) fun D σ H q => by
  obtain ⟨A, W0, H0, W, ρ, r, N, E, q, kn, kr, kb, kc⟩ := q
  refine ⟨A, W0, H0, W, ρ, r, _, E, q, fun ds r1 q1 us H1 W1 x1 E1 m1 => ?_⟩
  obtain ⟨d, e, f, rfl, q1⟩ := q1
  cases m1 with
  | cons h1 m1 =>
    cases m1 with
    | cons h2 m1 =>
      cases m1 with
      | cons h3 m1 =>
        cases m1
        exact ⟨_, _, _, rfl, kn _ r1 q1 _ H1 W1 (((E1.set ni h1).set nj h2).set nl h3) (x1.stp E.res.av)⟩
/-- a < b < c -/
def vChain (f g : D → D → (D → Prop) → Prop) (va vb vc : VT) : VT := fun ρ r Q => va ρ r fun d r1 => vb ρ r1 fun e r2 => f d e fun t => ∃ k, t = .bool k ∧ if k = true then vc ρ r2 fun h r3 => g e h fun z => Q z r3 else Q (.bool false) r2
theorem chain_lift {op op' : CmpOp} {f g : D → D → (D → Prop) → Prop} {r1 r2 : R2} {K : PySem.W.Frag} (s1 : OpSim K mL r1 f) (s2 : OpSim K mL r2 g) {σ : L2.St} {H : Hp} {Q : VK} (q : liftM K O mL (vChain f g v1 v2 v3) σ H Q) : tChain r1 r2 (liftM K O mB v1) (liftM K O mB v2) (liftM K O mB v3) σ H Q := by
  obtain ⟨A, W0, H0, W, ρ, rs, Q0, E, q, k⟩ := q
  refine ⟨A, W0, H0, W, ρ, rs, _, E, q, fun d ra q1 v H1 W1 x1 E1 m1 => ?_⟩
  refine ⟨A, W0, H0, W1, ρ, ra, _, E1, q1, fun d' rb q2 u H2 W2 x2 E2 m2 => ?_⟩
  refine s1 A W2 H2 rb v u d d' _ _ E2.res (goodB.st m1 x2 E1.res.av).any m2.any q2 fun z hz w H3 W3 x3 R3 m3 => ?_
  obtain ⟨kk, rfl, hz⟩ := hz
  have hw : w = .bl kk := by
    rcases m3 with ⟨m, _⟩ | ⟨_, m⟩
    · cases m
    · cases m; rfl
  refine ⟨kk, hw, ?_⟩
  have E3 := E2.ext x3 R3
  have x123 := (x1.trans x2).trans x3
  cases kk with
  | true =>
    refine iteT ⟨A, W0, H0, W3, ρ, rb, _, E3, hz, fun h rc q4 u4 H4 W4 x4 E4 m4 => ?_⟩
    refine s2 A W4 H4 rc u u4 d' h _ _ E4.res (goodB.st (goodB.st m2 x3 E2.res.av) x4 E3.res.av).any m4.any q4 fun t ht w H5 W5 x5 R5 m5 => ?_
    exact k t rc ht w H5 W5 ((x123.trans x4).trans x5) (E4.ext x5 R5) (m5.bk fun a ha => x123.al a (x4.al a ha))
  | false => exact iteF (k _ rb hz _ H3 W3 x123 E3 (.inr ⟨rfl, .bl _⟩))
theorem ve_chain {op op' : CmpOp} {f g : D → D → (D → Prop) → Prop} (c1 : CmpOk X op b f) (c2 : CmpOk X op' c g) (ha : VB X O a v1) (hb : VB X O b v2) (hc : VB X O c v3) (hm : lastMarks [op, op'] [b, c] = false := by with_unfolding_all rfl) : VL X O (.Compare a [op, op'] [b, c] pos) (vChain f g v1 v2 v3) := by
  obtain ⟨r1, h1, s1, _⟩ := c1
  obtain ⟨r2, h2, s2, _⟩ := c2
  exact PE.imp (pe_chain h1 h2 ha hb hc hm) fun _ _ _ q => chain_lift (op := op) (op' := op') s1 s2 q
theorem vt_chain {op op' : CmpOp} {f g : D → D → (D → Prop) → Prop} (c1 : CmpOk X op b f) (c2 : CmpOk X op' c g) (ha : VB X O a v1) (hb : VB X O b v2) (hc : VB X O c v3) (hm : lastMarks [op, op'] [b, c] = false := by with_unfolding_all rfl) : VTs X O (.Compare a [op, op'] [b, c] pos) (vB (vChain f g v1 v2 v3)) := by
  obtain ⟨r1, h1, s1, _⟩ := c1
  obtain ⟨r2, h2, s2, _⟩ := c2
  refine PT.imp (pt_chain h1 h2 ha hb hc hm) fun σ H Q q => ?_
  obtain ⟨A, W0, H0, W, ρ, rs, Q0, E, q, k⟩ := q
  refine chain_lift (op := op) (op' := op') s1 s2 ⟨A, W0, H0, W, ρ, rs, _, E, q, fun d r1 q1 v H1 W1 x1 E1 m1 => ?_⟩
  obtain ⟨b, rfl, q1⟩ := q1
  rcases m1 with ⟨m, _⟩ | ⟨_, m⟩
  · cases m
  · cases m
    exact ⟨b, rfl, k b r1 q1 H1 W1 x1 E1⟩
def keyOfD : D → Option Key
  | .int i => some (.inl i)
  | .str z => some (.inr z)
  | _ => none
theorem keyOf_key (k : Key) : keyOfD (keyD k) = some k := by cases k <;> rfl
def lookD : List (D × D) → Key → Option D
  | [], _ => none
  | (k', d) :: r, k => if keyOfD k' = some k then some d else lookD r k
def putD : List (D × D) → Key → D → List (D × D)
  | [], k, d => [(keyD k, d)]
  | (k', d') :: r, k, d => if keyOfD k' = some k then (k', d) :: r else (k', d') :: putD r k d
theorem mB.kV {A : Amb} {W : Addr → Prop} {Hs H : Hp} {v : V} {d : D} {k : Key} (h : mB K A Hs W H v d) (e : keyOfD d = some k) : v = L2.kV k := by
  cases d <;> first | (cases e; done) | skip
  · cases e; rw [h.int]; rfl
  · cases e; rw [h.str]; rfl
theorem DwK.look {A : Amb} {W : Addr → Prop} {H : Hp} {k : Key} : ∀ {xs : List (Key × V)} {ds : List (D × D)}, DwK K A W H xs ds → (lookD ds k = none → valV xs k = none) ∧ ∀ d, lookD ds k = some d → ∃ v, valV xs k = some v ∧ Dw K A W H v d
  | _, _, .nil => ⟨fun _ => rfl, fun _ e => by cases e⟩
  | _, _, .cons (k := k') h r => by
    have ih := r.look (k := k)
    unfold lookD
    rw [keyOf_key]
    by_cases q : k' = k
    · subst q
      rw [if_pos rfl]
      refine ⟨fun e => (by cases e), fun d e => ?_⟩
      cases e
      exact ⟨_, valV_pos rfl, h⟩
    · rw [if_neg (by simpa using q)]
      have e : ∀ (v : V) (r : List (Key × V)), valV ((k', v) :: r) k = valV r k := fun v r => by simp [valV, List.find?_cons, q]
      rw [e]
      exact ih
def dGet (d k : D) (Q : D → Prop) : Prop := ∃ kvs key, d = .dict kvs ∧ isTok kvs = false ∧ keyOfD k = some key ∧ ∃ z, lookD kvs key = some z ∧ Q z
def dGet2 (d k e : D) (Q : D → Prop) : Prop := ∃ kvs key, d = .dict kvs ∧ isTok kvs = false ∧ keyOfD k = some key ∧ Q ((lookD kvs key).getD e)
def vGet2 (v1 v2 v3 : VT) : VT := fun ρ r Q => v1 ρ r fun d r1 => (∃ kvs, d = .dict kvs ∧ isTok kvs = false) ∧ v2 ρ r1 fun k r2 => v3 ρ r2 fun e r3 => dGet2 d k e fun z => Q z r3
/-- d.get(k, e) -/
theorem ve_dget2 (hu : X.A.units + 1 < cLine) (ho : VB X O o v1) (ha : VB X O a v2) (hb : VE X O b v3) (m : M2 X o "get" apos a b cpos) : VE X O (.Call (.Attribute o "get" apos) [a, b] [] cpos) (vGet2 v1 v2 v3) := PE.imp (pe_dget2 hu ho ha hb m) fun σ H Q q => by
  obtain ⟨A, W0, H0, W, ρ, rs, Q0, E, q, k⟩ := q
  refine ⟨A, W0, H0, W, ρ, rs, _, E, q, fun d r1 q1 v H1 W1 x1 E1 m1 => ?_⟩
  obtain ⟨⟨kvs, rfl, tk⟩, q1⟩ := q1
  obtain ⟨p, xs, rfl, hp, hx⟩ := m1.dic tk
  refine ⟨p, rfl, .inl ⟨xs, hp⟩, A, W0, H0, W1, ρ, r1, _, E1, q1, fun d' r2 q2 u H2 W2 x2 E2 m2 => ?_⟩
  refine ⟨A, W0, H0, W2, ρ, r2, _, E2, q2, fun e r3 q3 t H3 W3 x3 E3 m3 => ?_⟩
  obtain ⟨kvs', key, ek, tk', hk, q3⟩ := q3
  cases ek
  obtain ⟨p', xs', ep, hp', hx'⟩ := (goodB.st (goodB.st m1 x2 E1.res.av) x3 E2.res.av).dic tk
  cases ep
  have x := (x1.trans x2).trans x3
  refine ⟨valV xs' key, .inl ⟨xs', key, hp', m2.kV hk, rfl⟩, ?_⟩
  cases hl : lookD kvs key with
  | none =>
    rw [hx'.look.1 hl]
    rw [hl] at q3
    exact k e r3 q3 t H3 W3 x E3 m3
  | some z =>
    obtain ⟨w, hw, hd⟩ := hx'.look.2 z hl
    rw [hw]
    rw [hl] at q3
    exact k z r3 q3 w H3 W3 x E3 hd
/-- {k: v, ..} -/
theorem DwK.put {A : Amb} {W : Addr → Prop} {H : Hp} {k : Key} {v : V} {d : D} (h : Dw K A W H v d) : ∀ {xs : List (Key × V)} {ds : List (D × D)}, DwK K A W H xs ds → (xs.map (·.1)).Nodup → DwK K A W H (putK xs k v) (putD ds k d)
  | _, _, .nil, _ => .cons h .nil
  | _, _, .cons (k := k') (v := v') (vs := vs) h' r, nd => by
    rw [List.map_cons, List.nodup_cons] at nd
    have ih := r.put h (k := k) nd.2
    unfold putD
    rw [keyOf_key]
    by_cases q : k' = k
    · subst q
      rw [if_pos rfl]
      have e : putK ((k', v') :: vs) k' v = (k', v) :: vs := by
        unfold putK
        rw [if_pos (by simp)]
        simp only [List.map_cons, if_true]
        congr 1
        refine (List.map_congr_left fun p hp => ?_).trans (List.map_id vs)
        rw [if_neg fun z => nd.1 (by rw [← z]; exact List.mem_map_of_mem (f := fun x => x.1) hp)]
        rfl
      rw [e]
      exact .cons h r
    · rw [if_neg (by simpa using q)]
      have e : putK ((k', v') :: vs) k v = (k', v') :: putK vs k v := by
        unfold putK
        have : ((k', v') :: vs).any (fun kv => decide (kv.1 = k)) = vs.any fun kv => decide (kv.1 = k) := by simp [q]
        rw [this]
        split
        · simp [q]
        · rfl
      rw [e]
      exact .cons h' ih
theorem put_nodup {xs : List (Key × V)} {k : Key} {v : V} (nd : (xs.map (·.1)).Nodup) : ((putK xs k v).map (·.1)).Nodup := by
  unfold putK
  split
  · rename_i h
    have : (xs.map fun kv => if kv.1 = k then (kv.1, v) else kv).map (·.1) = xs.map (·.1) := by
      rw [List.map_map]
      refine List.map_congr_left fun p _ => ?_
      show (if p.1 = k then (p.1, v) else p).1 = p.1
      split <;> rfl
    rw [this]
    exact nd
  · rename_i h
    rw [List.map_append, List.nodup_append]
    refine ⟨nd, by simp, ?_⟩
    intro a ha b hb
    have hb : b = k := by simpa using hb
    subst hb
    rintro rfl
    obtain ⟨p, hp, e⟩ := List.mem_map.mp ha
    exact h (List.any_eq_true.mpr ⟨p, hp, by simpa using e⟩)
def mergeD (kvs : List (D × D)) : List (Key × D) → List (D × D)
  | [] => kvs
  | (k, d) :: r => mergeD (putD kvs k d) r
theorem DwK.merge {A : Amb} {W : Addr → Prop} {H : Hp} : ∀ {ys : List (Key × V)} {es : List (Key × D)} {xs : List (Key × V)} {ds : List (D × D)}, DwK K A W H xs ds → (xs.map (·.1)).Nodup → DwK K A W H ys (es.map fun p => (keyD p.1, p.2)) → DwK K A W H (mergeK xs ys) (mergeD ds es) := by
  intro ys
  induction ys with
  | nil =>
    intro es xs ds h nd h2
    cases es with
    | nil => exact h
    | cons p r => cases h2
  | cons p ys ih =>
    intro es xs ds h nd h2
    cases es with
    | nil => cases h2
    | cons q es =>
      obtain ⟨k', d⟩ := q
      have : ∃ v, p = (k', v) ∧ Dw K A W H v d ∧ DwK K A W H ys (es.map fun p => (keyD p.1, p.2)) := by
        generalize hg : (((k', d) :: es).map fun p => (keyD p.1, p.2)) = zs at h2
        rw [List.map_cons] at hg
        cases h2 with
        | @cons k2 v vs d2 ds2 h3 h4 =>
          injection hg with g1 g2
          injection g1 with g3 g4
          have e : k' = k2 := by
            have := congrArg keyOfD g3
            rw [keyOf_key, keyOf_key] at this
            exact Option.some.inj this
          subst e g4 g2
          exact ⟨v, rfl, h3, h4⟩
      obtain ⟨v, rfl, h3, h4⟩ := this
      exact ih (es := es) (DwK.put h3 h nd) (put_nodup nd) h4
def vPairs : List (VT × VT) → En → Rs → (List (D × D) → Rs → Prop) → Prop
  | [], _, r, Q => Q [] r
  | (vk, vv) :: t, ρ, r, Q => vk ρ r fun k r1 => vv ρ r1 fun d r2 => vPairs t ρ r2 fun ps r3 => Q ((k, d) :: ps) r3
def keysD : List (D × D) → Option (List (Key × D))
  | [] => some []
  | (k, d) :: r => match keyOfD k, keysD r with
    | some k, some r => some ((k, d) :: r)
    | _, _ => none
def dDispQ (ps : List (D × D)) (R : D → Prop) : Prop := ∃ kvs, keysD ps = some kvs ∧ kvs.length ≤ 15 ∧ R (.dict (mergeD [] kvs))
def vDisp (ts : List (VT × VT)) : VT := fun ρ r Q => vPairs ts ρ r fun ps r1 => dDispQ ps fun z => Q z r1
/-- the pairs' judgements -/
inductive VPs (X : Cx) (O : List Nat) (pos : Pos) : List (Option Expr) → List Expr → List (VT × VT) → Prop where
  | nil : VPs X O pos [] [] []
  | cons {k v : Expr} {ks : List (Option Expr)} {vs : List Expr} {vk vv : VT} {t : List (VT × VT)} (hk : VE X O k vk) (hv : VE X O v vv) (h : VPs X O pos ks vs t) : VPs X O pos (some k :: ks) (v :: vs) ((vk, vv) :: t)
theorem vps_nil : VPs X O pos [] [] [] := .nil
theorem vps_cons {k v : Expr} {ks : List (Option Expr)} {vs : List Expr} {vk vv : VT} {t : List (VT × VT)} (hk : VE X O k vk) (hv : VE X O v vv) (h : VPs X O pos ks vs t) : VPs X O pos (some k :: ks) (v :: vs) ((vk, vv) :: t) := .cons hk hv h
theorem VPs.pps {ks : List (Option Expr)} {es : List Expr} {ts : List (VT × VT)} (h : VPs X O pos ks es ts) : PPs X pos ks es (ts.map fun p => (liftM X.K O mF p.1, liftM X.K O mF p.2)) := by
  induction h with
  | nil => exact pps_nil
  | cons hk hv _ ih => exact pps_cons hk hv ih
inductive DwP (K : PySem.W.Frag) (A : Amb) (W : Addr → Prop) (H : Hp) : List (V × V) → List (D × D) → Prop
  | nil : DwP K A W H [] []
  | cons {k v : V} {r : List (V × V)} {dk d : D} {t : List (D × D)} : Dw K A W H k dk → Dw K A W H v d → DwP K A W H r t → DwP K A W H ((k, v) :: r) ((dk, d) :: t)
theorem pairs_go {A : Amb} {W0 : Addr → Prop} {H0 : Hp} {σ : L2.St} {ρ : En} : ∀ {ts : List (VT × VT)} {W : Addr → Prop} {H : Hp} {r : Rs} {Q0 : List (D × D) → Rs → Prop} {Q : List (V × V) → Hp → Prop}, Env K A W0 H0 O W σ H ρ r → vPairs ts ρ r Q0 →
    (∀ ps r', Q0 ps r' → ∀ vs H' W', Ext K A W H W' H' → Env K A W0 H0 O W' σ H' ρ r' → DwP K A W' H' vs ps → Q vs H') → tPairs (ts.map fun p => (liftM K O mF p.1, liftM K O mF p.2)) σ H Q
  | [], W, H, r, Q0, Q, E, q, k => k [] r q [] H W .refl E .nil
  | (vk, vv) :: ts, W, H, r, Q0, Q, E, q, k => by
    refine ⟨A, W0, H0, W, ρ, r, _, E, q, fun d r1 q1 u H1 W1 x1 E1 m1 => ?_⟩
    refine ⟨A, W0, H0, W1, ρ, r1, _, E1, q1, fun d2 r2 q2 u2 H2 W2 x2 E2 m2 => ?_⟩
    refine pairs_go E2 q2 fun ps r3 q3 vs H3 W3 x3 E3 m3 => ?_
    exact k _ r3 q3 _ H3 W3 ((x1.trans x2).trans x3) E3 (.cons ((m1.ext x2 E1.res.av).ext x3 E2.res.av) (Dw.ext m2 x3 E2.res.av) m3)
theorem DwP.keys {A : Amb} {W : Addr → Prop} {H : Hp} : ∀ {vs : List (V × V)} {ps : List (D × D)} {kvs : List (Key × D)}, DwP K A W H vs ps → keysD ps = some kvs → ∃ ws : List (Key × V), vs = ws.map (fun kv => (L2.kV kv.1, kv.2)) ∧ ws.length = kvs.length ∧ DwK K A W H ws (kvs.map fun p => (keyD p.1, p.2))
  | _, _, kvs, .nil, e => by cases e; exact ⟨[], rfl, rfl, .nil⟩
  | _, _, kvs, .cons (dk := dk) (t := t) hk hv r, e => by
    unfold keysD at e
    split at e
    · rename_i k rest e1 e2
      cases e
      obtain ⟨ws, rfl, hl, hw⟩ := r.keys e2
      refine ⟨(k, _) :: ws, ?_, by rw [List.length_cons, List.length_cons, hl], .cons hv hw⟩
      rw [List.map_cons, mB.kV (Hs := H) (.inl hk) e1]
    · cases e
theorem dkNT {xs : List (Key × V)} : ∀ ys u, HO.dK xs ≠ .tup ys ∧ HO.dK xs ≠ .frz u (.tup ys) := fun _ _ => ⟨fun z => (by cases z), fun z => (by cases z)⟩
theorem ve_disp {ks : List (Option Expr)} {ts : List (VT × VT)} (h : VPs X O pos ks es ts) (hall : ks.all (·.isSome) = true) (hl : ks.length = es.length) (h0 : ks ≠ []) (h15 : ks.length ≤ 15) : VL X O (.Dict ks es pos) (vDisp ts) := PE.imp (pe_disp h.pps hall hl h0 h15) fun σ H Q q => by
  obtain ⟨A, W0, H0, W, ρ, rs, Q0, E, q, k⟩ := q
  intro p hp
  have hU := E.res.uNew hp
  refine pairs_go (E.new hp) q fun ps r1 q1 vs H1 W1 x1 E1 m1 => ?_
  obtain ⟨kvs, e, hlen, q1⟩ := q1
  have h1 : H1 p = some (.dK []) := x1.fr _ _ hU upd_same
  have n1 : ¬ W1 p := fun z => (x1.wn p z).elim (fun z => E.res.wa p z hp) fun z => by rw [upd_same] at z; cases z
  obtain ⟨ws, rfl, hl2, hw⟩ := m1.keys e
  refine ⟨h1, ws, rfl, by rw [hl2]; exact hlen, ?_⟩
  have xa : Ext X.K A W H W1 H1 := by
    refine (Ext.new (o := .dK []) hp).trans x1
  have xb : Ext X.K A W H W1 (upd H1 p (.dK (mergeK [] ws))) := xa.updNew hp h1 dkNT
  refine k _ r1 q1 _ _ W1 xb (E.ext xb (E1.res.updN n1 hU h1 dkNT)) (.inl ⟨rfl, p, rfl, .dk upd_same ?_, n1, hU, hp⟩)
  have := DwK.merge (es := kvs) .nil (by simp) hw
  exact this.mov (fun _ e => e) (fun b u w e => by rw [upd_ne (fun z => n1 (by rw [← z]; exact w))]; exact e) fun b xs e => sqT_put h1 dkNT e
theorem ve_disp0 : VL X O (.Dict [] [] pos) (vC (.dict [])) := PE.imp pe_dnewK fun σ H Q q => by
  obtain ⟨A, W0, H0, W, ρ, rs, Q0, E, q, k⟩ := q
  intro p hp
  exact k _ rs q _ _ W (Ext.new hp) (E.new hp) (.inl ⟨rfl, p, rfl, .dk upd_same .nil, E.nw hp, E.res.uNew hp, hp⟩)
def dFmt (d : D) (Q : D → Prop) : Prop := (∃ y : Str, d = .str y ∧ y.length ≤ sizeLine ∧ Q (.str y)) ∨ ∃ i : Int, d = .int i ∧ i.natAbs.log2 < 1920 ∧ Q (.str (toString i))
def vJs : List VT → Str → En → Rs → (Str → Rs → Prop) → Prop
  | [], acc, _, r, Q => Q acc r
  | t :: ts, acc, ρ, r, Q => t ρ r fun d r1 => ∃ y : Str, d = .str y ∧ (acc ++ y).length ≤ sizeLine ∧ vJs ts (acc ++ y) ρ r1 Q
end
end Sn
namespace Sn
open PySem PySem.Spec PyProof.Rows L2
section
variable {ρ : En} {r : Rs} {Q : D → Rs → Prop} {QB : Bool → Rs → Prop} {QA : List D → Rs → Prop} {N : VN} {s t : VTS} {v va vb vc v1 v2 v3 : VT} {c c1 c2 : VTT} {vs : VTA} {i j l : Nat} {d e : D} {R : D → Prop}
theorem i_seq (h : s ⟨fun ρ' r' => t N ρ' r', N.rt, N.bk, N.ct⟩ ρ r) : vSeq s t N ρ r := h
theorem i_set (h : v ρ r fun d r1 => N.nx (ρ.set i (some d)) r1) : vSet i v N ρ r := h
theorem i_setO (h : v ρ r fun d r1 => isMut d = true ∧ N.nx (ρ.set i (some d)) r1) : vSetO i v N ρ r := h
theorem i_drop (h : v ρ r fun _ r1 => N.nx ρ r1) : vDrop v N ρ r := h
theorem i_ret (h : v ρ r fun d r1 => N.rt d r1) : vRet v N ρ r := h
theorem i_retN (h : N.rt .none r) : vRetN N ρ r := h
theorem i_ifS (h : c ρ r fun b r1 => if b = true then s N ρ r1 else t N ρ r1) : vIfS c s t N ρ r := h
theorem i_break (h : N.bk ρ r) : vBreak N ρ r := h
theorem i_cont (h : N.ct ρ r) : vCont N ρ r := h
theorem i_next (h : N.nx ρ r) : vNext N ρ r := h
theorem i_append {ds : List D} (e : ρ[i]? = some (some (.list ds))) (h : v ρ r fun d r1 => ds.length < sizeLine ∧ N.nx (ρ.set i (some (.list (ds ++ [d])))) r1) : vAppend i v N ρ r := ⟨ds, e, h⟩
theorem i_extend {ds : List D} (e : ρ[i]? = some (some (.list ds))) (h : v ρ r fun d r1 => ∃ es, d = .list es ∧ ds.length + es.length ≤ sizeLine ∧ N.nx (ρ.set i (some (.list (ds ++ es)))) r1) : vExtend i v N ρ r := ⟨ds, e, h⟩
theorem i_par2 (h : vs ρ r fun ds r1 => ∃ d e, ds = [d, e] ∧ N.nx ((ρ.set i (some d)).set j (some e)) r1) : vPar2 i j vs N ρ r := h
theorem i_par3 (h : vs ρ r fun ds r1 => ∃ d e f, ds = [d, e, f] ∧ N.nx (((ρ.set i (some d)).set j (some e)).set l (some f)) r1) : vPar3 i j l vs N ρ r := h
theorem i_asgT {t : Tgt} (h : v ρ r fun d r1 => vBind t d ρ fun ρ' => N.nx ρ' r1) : vAsgT t v N ρ r := h
theorem i_var (h : ρ[i]? = some (some d)) (q : Q d r) : vVar i ρ r Q := ⟨d, h, q⟩
theorem i_c (q : Q d r) : vC d ρ r Q := q
theorem i_op {f : D → D → (D → Prop) → Prop} (h : va ρ r fun d r1 => vb ρ r1 fun e r2 => f d e fun z => Q z r2) : vOp f va vb ρ r Q := h
theorem i_un {f : D → (D → Prop) → Prop} (h : va ρ r fun d r1 => f d fun z => Q z r1) : vUn f va ρ r Q := h
theorem i_nil (h : QA [] r) : vNil ρ r QA := h
theorem i_cons (h : v ρ r fun d r1 => vs ρ r1 fun ds r2 => QA (d :: ds) r2) : vCons v vs ρ r QA := h
theorem i_tup (h : vs ρ r fun ds r1 => ds.length ≤ sizeLine ∧ Q (.tuple ds) r1) : vTup vs ρ r Q := h
theorem i_lst (h : vs ρ r fun ds r1 => ds.length ≤ sizeLine ∧ Q (.list ds) r1) : vLst vs ρ r Q := h
theorem i_cb {f : List D → (D → Prop) → Prop} (h : vs ρ r fun ds r1 => f ds fun z => Q z r1) : vCB f vs ρ r Q := h
theorem i_if (h : c ρ r fun b r1 => if b = true then va ρ r1 Q else vb ρ r1 Q) : vIf c va vb ρ r Q := h
theorem i_andV (h : va ρ r fun x r1 => ∃ c, x = .bool c ∧ if c = true then vb ρ r1 Q else Q (.bool false) r1) : vAndV va vb ρ r Q := h
theorem i_orV (h : va ρ r fun x r1 => ∃ c, x = .bool c ∧ if c = true then Q (.bool true) r1 else vb ρ r1 Q) : vOrV va vb ρ r Q := h
theorem i_notV (h : va ρ r fun x r1 => ∃ c, x = .bool c ∧ Q (.bool (!c)) r1) : vNotV va ρ r Q := h
theorem i_b (h : va ρ r fun x r1 => ∃ c, x = .bool c ∧ QB c r1) : vB va ρ r QB := h
theorem i_and (h : c1 ρ r fun c r1 => if c = true then c2 ρ r1 QB else QB false r1) : vAnd c1 c2 ρ r QB := h
theorem i_or (h : c1 ρ r fun c r1 => if c = true then QB true r1 else c2 ρ r1 QB) : vOr c1 c2 ρ r QB := h
theorem i_not (h : c1 ρ r fun c r1 => QB (!c) r1) : vNot c1 ρ r QB := h
theorem i_call {vf : VF} (h : vs ρ r fun ds r1 => vf ds r1 Q) : vCall vf vs ρ r Q := h
theorem i_mt {ty : D → Prop} {f : D → List D → (D → Prop) → Prop} (h : v ρ r fun d r1 => ty d ∧ vs ρ r1 fun ds r2 => f d ds fun z => Q z r2) : vMt ty f v vs ρ r Q := h
theorem i_sl {lo hi : VTO} (h : v ρ r fun d r1 => lo ρ r1 fun l r2 => hi ρ r2 fun u r3 => dSl d l u fun z => Q z r3) : vSl v lo hi ρ r Q := h
theorem i_noPart {Q : Option Int → Rs → Prop} (h : Q none r) : vNoPart ρ r Q := h
theorem i_part {Q : Option Int → Rs → Prop} (h : v ρ r fun d r1 => ∃ i, d = .int i ∧ Q (some i) r1) : vPart v ρ r Q := h
theorem i_isi {T : String} (h : v ρ r fun d r1 => ∃ n, tyN d = some n ∧ Q (.bool (isTy1 T n)) r1) : vIsi T v ρ r Q := h
theorem i_chain {f g : D → D → (D → Prop) → Prop} (h : va ρ r fun d r1 => vb ρ r1 fun e r2 => f d e fun t => ∃ k, t = .bool k ∧ if k = true then vc ρ r2 fun h r3 => g e h fun z => Q z r3 else Q (.bool false) r2) : vChain f g va vb vc ρ r Q := h
theorem i_get2 (h : v1 ρ r fun d r1 => (∃ kvs, d = .dict kvs ∧ isTok kvs = false) ∧ v2 ρ r1 fun k r2 => v3 ρ r2 fun e r3 => dGet2 d k e fun z => Q z r3) : vGet2 v1 v2 v3 ρ r Q := h
theorem i_disp {ts : List (VT × VT)} (h : vPairs ts ρ r fun ps r1 => dDispQ ps fun z => Q z r1) : vDisp ts ρ r Q := h
theorem i_pnil {QP : List (D × D) → Rs → Prop} (h : QP [] r) : vPairs [] ρ r QP := h
theorem i_pcons {QP : List (D × D) → Rs → Prop} {vk vv : VT} {ts : List (VT × VT)} (h : vk ρ r fun k r1 => vv ρ r1 fun d r2 => vPairs ts ρ r2 fun ps r3 => QP ((k, d) :: ps) r3) : vPairs ((vk, vv) :: ts) ρ r QP := h
theorem i_jnil {QJ : Str → Rs → Prop} {acc : Str} (h : QJ acc r) : vJs [] acc ρ r QJ := h
theorem i_jcons {QJ : Str → Rs → Prop} {acc : Str} {ts : List VT} (h : v ρ r fun d r1 => ∃ y : Str, d = .str y ∧ (acc ++ y).length ≤ sizeLine ∧ vJs ts (acc ++ y) ρ r1 QJ) : vJs (v :: ts) acc ρ r QJ := h
theorem i_for {vi : VTI} {t : Tgt} (h : vi ρ r fun ds r1 => vLoop t s ds N ρ r1) : vFor vi t s N ρ r := h
theorem i_seqI (h : v ρ r fun d r1 => dSeq d fun ds => QA ds r1) : vSeqI v ρ r QA := h
theorem i_rng1 (h : vs ρ r fun ds r1 => ∃ j, ds = [.int j] ∧ -(2 ^ 62) ≤ j ∧ j < 2 ^ 62 ∧ QA (rngD 0 j.toNat) r1) : vRng1 vs ρ r QA := h
theorem i_rng2 (h : vs ρ r fun ds r1 => ∃ i j, ds = [.int i, .int j] ∧ (-(2 ^ 62) ≤ i ∧ i < 2 ^ 62 ∧ -(2 ^ 62) ≤ j ∧ j < 2 ^ 62) ∧ QA (rngD i (j - i).toNat) r1) : vRng2 vs ρ r QA := h
theorem i_lc {ws : List Nat} {vi : VTI} {t : Tgt} (h : vi ρ r fun ds r1 => ds.length ≤ sizeLine ∧ vLcGo t c v (wipeE ρ ws) ds r1 fun zs r2 => Q (.list zs) r2) : vLc ws vi t c v ρ r Q := h
theorem i_dseqL {ds : List D} {Q : List D → Prop} (h : Q ds) : dSeq (.list ds) Q := h
theorem i_dseqT {ds : List D} {Q : List D → Prop} (h : Q ds) : dSeq (.tuple ds) Q := h
theorem i_dseqS {z : Str} {Q : List D → Prop} (h : Q (strD z)) : dSeq (.str z) Q := h
theorem i_bind1 {Q : En → Prop} (h : Q (ρ.set i (some d))) : vBind (.nm i) d ρ Q := h
theorem i_bind2 {Q : En → Prop} {d e : D} (h : Q ((ρ.set i (some d)).set j (some e))) : vBind (.tp [i, j]) (.tuple [d, e]) ρ Q := ⟨_, rfl, rfl, h⟩
theorem i_bind3 {Q : En → Prop} {d e f : D} (h : Q (((ρ.set i (some d)).set j (some e)).set l (some f))) : vBind (.tp [i, j, l]) (.tuple [d, e, f]) ρ Q := ⟨_, rfl, rfl, h⟩
theorem i_exb {P : Bool → Prop} {b : Bool} (h : P b) : ∃ c, (.bool b : D) = .bool c ∧ P c := ⟨b, rfl, h⟩
theorem i_exi {P : Int → Prop} {i : Int} (h : P i) : ∃ c, (.int i : D) = .int c ∧ P c := ⟨i, rfl, h⟩
theorem i_exs {P : Str → Prop} {i : Str} (h : P i) : ∃ c, (.str i : D) = .str c ∧ P c := ⟨i, rfl, h⟩
theorem i_ex2 {P : D → D → Prop} {d e : D} (h : P d e) : ∃ x y, [d, e] = [x, y] ∧ P x y := ⟨d, e, rfl, h⟩
theorem i_ex3 {P : D → D → D → Prop} {d e f : D} (h : P d e f) : ∃ x y z, [d, e, f] = [x, y, z] ∧ P x y z := ⟨d, e, f, rfl, h⟩
theorem i_tt {A B : Prop} (h : A) : if true = true then A else B := by rw [if_pos rfl]; exact h
theorem i_ff {A B : Prop} (h : B) : if false = true then A else B := by rw [if_neg (by decide)]; exact h
theorem i_ntt {A B : Prop} (h : B) : if (!true) = true then A else B := by rw [if_neg (by decide)]; exact h
theorem i_nff {A B : Prop} (h : A) : if (!false) = true then A else B := i_tt h
theorem i_ite {A B : Prop} {b : Bool} (h1 : b = true → A) (h2 : b = false → B) : if b = true then A else B := by
  cases b with
  | true => exact i_tt (h1 rfl)
  | false => exact i_ff (h2 rfl)
theorem i_ty {n : String} {d : D} {P : String → Prop} (h : tyN d = some n) (q : P n) : ∃ n, tyN d = some n ∧ P n := ⟨n, h, q⟩
theorem i_eqT {x y : Str} (h : x = y) (q : R (.bool true)) : dEq false (.str x) (.str y) R := ⟨.inr (.inl rfl), by
  have e : PyData.eqv (.str x) (.str y) = true := by simp [PyData.eqv, h]
  rw [if_neg (by decide), e]
  exact q⟩
theorem i_eqF {x y : Str} (h : x ≠ y) (q : R (.bool false)) : dEq false (.str x) (.str y) R := ⟨.inr (.inl rfl), by
  have e : PyData.eqv (.str x) (.str y) = false := by simp [PyData.eqv, h]
  rw [if_neg (by decide), e]
  exact q⟩
theorem i_eqS {x y : Str} (q : R (.bool (decide (x = y)))) : dEq false (.str x) (.str y) R := by
  by_cases h : x = y
  · rw [decide_eq_true h] at q; exact i_eqT h q
  · rw [decide_eq_false h] at q; exact i_eqF h q
theorem i_neT {x y : Str} (h : x = y) (q : R (.bool false)) : dEq true (.str x) (.str y) R := ⟨.inr (.inl rfl), by
  have e : PyData.eqv (.str x) (.str y) = true := by simp [PyData.eqv, h]
  rw [if_pos rfl, e]
  exact q⟩
theorem i_neF {x y : Str} (h : x ≠ y) (q : R (.bool true)) : dEq true (.str x) (.str y) R := ⟨.inr (.inl rfl), by
  have e : PyData.eqv (.str x) (.str y) = false := by simp [PyData.eqv, h]
  rw [if_pos rfl, e]
  exact q⟩
theorem i_neS {x y : Str} (q : R (.bool (!decide (x = y)))) : dEq true (.str x) (.str y) R := by
  by_cases h : x = y
  · rw [decide_eq_true h] at q; exact i_neT h q
  · rw [decide_eq_false h] at q; exact i_neF h q
theorem i_eqI {x y : Int} (q : R (.bool (decide (x = y)))) : dEq false (.int x) (.int y) R := ⟨.inr (.inl rfl), by
  have e : PyData.eqv (.int x) (.int y) = decide (x = y) := by simp [PyData.eqv, Bool.beq_eq_decide_eq]
  rw [if_neg (by decide), e]
  exact q⟩
theorem i_neI {x y : Int} (q : R (.bool (!decide (x = y)))) : dEq true (.int x) (.int y) R := ⟨.inr (.inl rfl), by
  have e : PyData.eqv (.int x) (.int y) = decide (x = y) := by simp [PyData.eqv, Bool.beq_eq_decide_eq]
  rw [if_pos rfl, e]
  exact q⟩
theorem i_cmpI {g : Int → Int → Bool} {s : Str → Str → Bool} {x y : Int} (q : R (.bool (g x y))) : dCmp g s (.int x) (.int y) R := q
theorem i_I0 {g : Int → Int → D} {x y : Int} (q : R (g x y)) : dI0 g (.int x) (.int y) R := q
theorem i_addI {x y : Int} (q : R (.int (x + y))) : dAdd (.int x) (.int y) R := q
theorem i_addS {x y : Str} (h : x.length + y.length ≤ sizeLine) (q : R (.str (x ++ y))) : dAdd (.str x) (.str y) R := ⟨h, q⟩
theorem i_addL {x y : List D} (h : x.length + y.length ≤ sizeLine) (q : R (.list (x ++ y))) : dAdd (.list x) (.list y) R := ⟨h, q⟩
theorem i_addT {x y : List D} (h : x.length + y.length ≤ sizeLine) (q : R (.tuple (x ++ y))) : dAdd (.tuple x) (.tuple y) R := ⟨h, q⟩
theorem i_isNt (h : d = .none) (q : R (.bool true)) : dIsN false d .none R := ⟨rfl, by rw [h]; exact q⟩
theorem i_isNf (h : isNoD d = false) (q : R (.bool false)) : dIsN false d .none R := ⟨rfl, by rw [h, if_neg (by decide)]; exact q⟩
theorem i_notNt (h : d = .none) (q : R (.bool false)) : dIsN true d .none R := ⟨rfl, by rw [h]; exact q⟩
theorem i_notNf (h : isNoD d = false) (q : R (.bool true)) : dIsN true d .none R := ⟨rfl, by rw [h, if_pos rfl]; exact q⟩
theorem i_sz0 {A : Prop} (h : A) : ([] : List D).length ≤ sizeLine ∧ A := ⟨Nat.zero_le _, h⟩
theorem i_sz1 {A : Prop} (h : A) : [d].length ≤ sizeLine ∧ A := ⟨by rw [sizeLine_eq]; simp, h⟩
theorem i_sz2 {A : Prop} (h : A) : [d, e].length ≤ sizeLine ∧ A := ⟨by rw [sizeLine_eq]; simp, h⟩
theorem i_sz3 {A : Prop} {f : D} (h : A) : [d, e, f].length ≤ sizeLine ∧ A := ⟨by rw [sizeLine_eq]; simp, h⟩
theorem i_mutL {A : Prop} {ds : List D} (h : A) : isMut (.list ds) = true ∧ A := ⟨rfl, h⟩
theorem i_mutD {A : Prop} {ds : List (D × D)} (h : A) : isMut (.dict ds) = true ∧ A := ⟨rfl, h⟩
theorem i_ixT {ds : List D} {i : Int} (h : atI ds i = some d) (q : R d) : dIx (.tuple ds) (.int i) R := ⟨d, h, q⟩
theorem i_ixL {ds : List D} {i : Int} (h : atI ds i = some d) (q : R d) : dIx (.list ds) (.int i) R := ⟨d, h, q⟩
theorem i_ixS {z : Str} {i : Int} {c : Nat} (hz : z.length ≤ sizeLine) (h : atI z.cps.toList i = some c) (q : R (.str ⟨#[c]⟩)) : dIx (.str z) (.int i) R := ⟨hz, c, h, q⟩
theorem i_slL {ds : List D} {lo hi : Option Int} (q : R (.list (cutL ds lo hi))) : dSl (.list ds) lo hi R := q
theorem i_slT {ds : List D} {lo hi : Option Int} (q : R (.tuple (cutL ds lo hi))) : dSl (.tuple ds) lo hi R := q
theorem i_lenL {ds : List D} (q : R (.int ds.length)) : dLen [.list ds] R := q
theorem i_lenT {ds : List D} (q : R (.int ds.length)) : dLen [.tuple ds] R := q
theorem i_tupL {ds : List D} (q : R (.tuple ds)) : dTupOf [.list ds] R := q
theorem i_tupT {ds : List D} (q : R (.tuple ds)) : dTupOf [.tuple ds] R := q
theorem i_listL {ds : List D} (q : R (.list ds)) : dListOf [.list ds] R := q
theorem i_listT {ds : List D} (q : R (.list ds)) : dListOf [.tuple ds] R := q
theorem i_fmtS {z : Str} (h : z.length ≤ sizeLine) (q : R (.str z)) : dFmt (.str z) R := .inl ⟨z, rfl, h, q⟩
theorem inD_strs {x : Str} : ∀ ys : List Str, inD (.str x) (ys.map .str) = decide (x ∈ ys)
  | [] => rfl
  | y :: ys => by
    have ih := inD_strs (x := x) ys
    unfold inD at ih ⊢
    rw [List.map_cons, List.any_cons, ih]
    by_cases h : y = x
    · simp [PyData.eqv, h]
    · have h' : ¬ x = y := fun e => h e.symm
      simp [PyData.eqv, h, h']
theorem flatD_strs : ∀ ys : List Str, (ys.map PyData.str).all flatD = true
  | [] => rfl
  | y :: ys => by rw [List.map_cons, List.all_cons, flatD_strs ys]; rfl
theorem i_inLs {x : Str} {ys : List Str} (q : R (.bool (decide (x ∈ ys)))) : dIn false (.str x) (.list (ys.map .str)) R := ⟨.inl ⟨rfl, flatD_strs ys⟩, by rw [if_neg (by decide), inD_strs]; exact q⟩
theorem i_inTs {x : Str} {ys : List Str} (q : R (.bool (decide (x ∈ ys)))) : dIn false (.str x) (.tuple (ys.map .str)) R := ⟨⟨rfl, flatD_strs ys⟩, by rw [if_neg (by decide), inD_strs]; exact q⟩
theorem i_ninTs {x : Str} {ys : List Str} (q : R (.bool (!decide (x ∈ ys)))) : dIn true (.str x) (.tuple (ys.map .str)) R := ⟨⟨rfl, flatD_strs ys⟩, by rw [if_pos rfl, inD_strs]; exact q⟩
/-- a promise: a text for data -/
def vfPg (ok : D → Prop) (f : D → Str) : VF := fun ds r Q => ∃ d, ds = [d] ∧ ok d ∧ Q (.str (f d)) r
theorem i_pg {ok : D → Prop} {f : D → Str} (h : ok d) (q : Q (.str (f d)) r) : vfPg ok f [d] r Q := ⟨d, rfl, h, q⟩
theorem i_inTt {ds : List D} (h : (flatD d && ds.all flatD) = true) (e : inD d ds = true) (q : R (.bool true)) : dIn false d (.tuple ds) R := ⟨by simpa using h, by rw [if_neg (by decide), e]; exact q⟩
theorem i_inTf {ds : List D} (h : (flatD d && ds.all flatD) = true) (e : inD d ds = false) (q : R (.bool false)) : dIn false d (.tuple ds) R := ⟨by simpa using h, by rw [if_neg (by decide), e]; exact q⟩
theorem i_inLt {ds : List D} (h : (flatD d && ds.all flatD) = true) (e : inD d ds = true) (q : R (.bool true)) : dIn false d (.list ds) R := ⟨.inl (by simpa using h), by rw [if_neg (by decide), e]; exact q⟩
theorem i_inLf {ds : List D} (h : (flatD d && ds.all flatD) = true) (e : inD d ds = false) (q : R (.bool false)) : dIn false d (.list ds) R := ⟨.inl (by simpa using h), by rw [if_neg (by decide), e]; exact q⟩
theorem i_ninTt {ds : List D} (h : (flatD d && ds.all flatD) = true) (e : inD d ds = true) (q : R (.bool false)) : dIn true d (.tuple ds) R := ⟨by simpa using h, by rw [if_pos rfl, e]; exact q⟩
theorem i_ninTf {ds : List D} (h : (flatD d && ds.all flatD) = true) (e : inD d ds = false) (q : R (.bool true)) : dIn true d (.tuple ds) R := ⟨by simpa using h, by rw [if_pos rfl, e]; exact q⟩
theorem i_tyS {A : Prop} {z : Str} (h : A) : tyD "str" (.str z) ∧ A := ⟨True.intro, h⟩
theorem i_tyL {A : Prop} {ds : List D} (h : A) : tyD "list" (.list ds) ∧ A := ⟨True.intro, h⟩
def dispOk (ps : List (D × D)) : Bool := match keysD ps with
  | some kvs => decide (kvs.length ≤ 15) && decide ((kvs.map (·.1)).Nodup)
  | none => false
theorem keysD_eq : ∀ {ps : List (D × D)} {kvs : List (Key × D)}, keysD ps = some kvs → ps = kvs.map fun p => (keyD p.1, p.2)
  | [], kvs, h => by cases h; rfl
  | (k, d) :: ps, kvs, h => by
    unfold keysD at h
    split at h
    · rename_i k' r e1 e2
      cases h
      rw [List.map_cons, ← keysD_eq e2]
      congr 1
      cases k <;> first | (cases e1; done) | (cases e1; rfl)
    · cases h
theorem putD_new {k : Key} {d : D} : ∀ {kvs : List (Key × D)}, k ∉ kvs.map (·.1) → putD (kvs.map fun p => (keyD p.1, p.2)) k d = (kvs ++ [(k, d)]).map fun p => (keyD p.1, p.2)
  | [], _ => rfl
  | (k', d') :: r, h => by
    simp only [List.map_cons, List.mem_cons, not_or] at h
    rw [List.map_cons]
    unfold putD
    rw [keyOf_key, if_neg (by simpa using fun e => h.1 e.symm), putD_new h.2]
    rfl
theorem mergeD_new : ∀ {es kvs : List (Key × D)}, ((kvs ++ es).map (·.1)).Nodup → mergeD (kvs.map fun p => (keyD p.1, p.2)) es = (kvs ++ es).map fun p => (keyD p.1, p.2)
  | [], kvs, _ => by rw [List.append_nil]; rfl
  | (k, d) :: es, kvs, h => by
    unfold mergeD
    rw [putD_new (fun m => by
      rw [List.map_append, List.nodup_append] at h
      exact h.2.2 k m k (by simp) rfl), mergeD_new (by rw [List.append_assoc]; exact h), List.append_assoc]
    rfl
theorem i_dispQ {ps : List (D × D)} (h : dispOk ps = true) (q : R (.dict ps)) : dDispQ ps R := by
  unfold dispOk at h
  split at h
  · rename_i kvs e
    simp only [Bool.and_eq_true, decide_eq_true_eq] at h
    refine ⟨kvs, e, h.1, ?_⟩
    have := mergeD_new (es := kvs) (kvs := []) (by simpa using h.2)
    rw [List.nil_append] at this
    rw [show mergeD [] kvs = ps from this.trans (keysD_eq e).symm]
    exact q
  · cases h
/-- the value at a text's key -/
def dLook (kvs : List (D × D)) (x : Str) (R : D → Prop) : Prop := ∃ z, lookD kvs (.inr x) = some z ∧ R z
theorem i_dget {kvs : List (D × D)} {x : Str} (h : isTok kvs = false) (q : dLook kvs x R) : dGet (.dict kvs) (.str x) R := ⟨kvs, .inr x, rfl, h, rfl, q⟩
theorem i_lookT {kvs : List (D × D)} {x y : Str} (h : x = y) (q : R d) : dLook ((.str x, d) :: kvs) y R := ⟨d, by simp [lookD, keyOfD, h], q⟩
theorem i_lookF {kvs : List (D × D)} {x y : Str} (h : x ≠ y) (q : dLook kvs y R) : dLook ((.str x, d) :: kvs) y R := by
  obtain ⟨z, e, q⟩ := q
  exact ⟨z, by simp [lookD, keyOfD, h, e], q⟩
def dLook2 (kvs : List (D × D)) (x : Str) (e : D) (R : D → Prop) : Prop := R ((lookD kvs (.inr x)).getD e)
theorem i_dget2 {kvs : List (D × D)} {x : Str} (h : isTok kvs = false) (q : dLook2 kvs x e R) : dGet2 (.dict kvs) (.str x) e R := ⟨kvs, .inr x, rfl, h, rfl, q⟩
theorem i_look2T {kvs : List (D × D)} {x y : Str} (h : x = y) (q : R d) : dLook2 ((.str x, d) :: kvs) y e R := by
  unfold dLook2
  simpa [lookD, keyOfD, h] using q
theorem i_look2F {kvs : List (D × D)} {x y : Str} (h : x ≠ y) (q : dLook2 kvs y e R) : dLook2 ((.str x, d) :: kvs) y e R := by
  unfold dLook2 at q ⊢
  simpa [lookD, keyOfD, h] using q
theorem i_look2N {y : Str} (q : R e) : dLook2 [] y e R := q
theorem i_exdict {kvs : List (D × D)} {A : Prop} (h : isTok kvs = false) (q : A) : (∃ k, (.dict kvs : D) = .dict k ∧ isTok k = false) ∧ A := ⟨⟨kvs, rfl, h⟩, q⟩
theorem i_lt {n : Nat} {A : Prop} (h : n < sizeLine) (a : A) : n < sizeLine ∧ A := ⟨h, a⟩
theorem i_le {n : Nat} {A : Prop} (h : n ≤ sizeLine) (a : A) : n ≤ sizeLine ∧ A := ⟨h, a⟩
theorem i_dT {P A B : Prop} [Decidable P] (h : P) (a : A) : if decide P = true then A else B := by rw [decide_eq_true h]; exact i_tt a
theorem i_dF {P A B : Prop} [Decidable P] (h : ¬ P) (a : B) : if decide P = true then A else B := by rw [decide_eq_false h]; exact i_ff a
theorem i_dNT {P A B : Prop} [Decidable P] (h : P) (a : B) : if (!decide P) = true then A else B := by rw [decide_eq_true h]; exact i_ff a
theorem i_dNF {P A B : Prop} [Decidable P] (h : ¬ P) (a : A) : if (!decide P) = true then A else B := by rw [decide_eq_false h]; exact i_tt a
theorem i_loop {t : Tgt} {ds : List D} (I : Nat → En → Rs → Prop) (h0 : I 0 ρ r) (hs : ∀ i d ρ r (nx : En → Rs → Prop), ds[i]? = some d → I i ρ r → (∀ ρ' r', I (i + 1) ρ' r' → nx ρ' r') → vBind t d ρ fun ρ' => s ⟨nx, N.rt, N.nx, nx⟩ ρ' r) (hd : ∀ ρ r, I ds.length ρ r → N.nx ρ r) : vLoop t s ds N ρ r := by
  suffices h : ∀ (n k : Nat) (ρ : En) (r : Rs), k + n = ds.length → I k ρ r → vLoop t s (ds.drop k) N ρ r from h ds.length 0 ρ r (Nat.zero_add _) h0
  intro n
  induction n with
  | zero =>
    intro k ρ r e hi
    have e : k = ds.length := e
    subst e
    rw [List.drop_length]
    exact hd ρ r hi
  | succ n ih =>
    intro k ρ r e hi
    have hk : k < ds.length := by omega
    rw [List.drop_eq_getElem_cons hk]
    exact hs k _ ρ r _ (List.getElem?_eq_getElem hk) hi fun ρ' r' hi' => ih (k + 1) ρ' r' (by omega) hi'
/-- a comprehension whose items change nothing -/
theorem i_go {t : Tgt} {ds : List D} (f : D → D) (h : ∀ d, d ∈ ds → ∀ R : D → Rs → Prop, R (f d) r → vBind t d ρ fun ρ' => v ρ' r R) (k : QA (ds.map f) r) : vLcGo t vYes v ρ ds r QA := by
  induction ds generalizing QA with
  | nil => exact k
  | cons d ds ih =>
    have mono : ∀ {P P' : En → Prop}, (∀ ρ, P ρ → P' ρ) → vBind t d ρ P → vBind t d ρ P' := by
      intro P P' hP q
      cases t with
      | nm i => exact hP _ q
      | tp is => obtain ⟨ds, e, hl, q⟩ := q; exact ⟨ds, e, hl, hP _ q⟩
    show vBind t d ρ fun ρ' => vYes ρ' r fun b r1 => if b = true then v ρ' r1 fun z r2 => vLcGo t vYes v ρ ds r2 fun zs r3 => QA (z :: zs) r3 else vLcGo t vYes v ρ ds r1 QA
    refine mono (P := fun ρ' => v ρ' r fun z r2 => vLcGo t vYes v ρ ds r2 fun zs r3 => QA (z :: zs) r3) ?_ (h d (List.mem_cons_self ..) _ ?_)
    · intro ρ1 q
      simp only [vYes, if_true]
      exact q
    exact ih (fun d hd => h d (List.mem_cons_of_mem _ hd)) k
/-- .. with a test -/
theorem i_goF {t : Tgt} {ds : List D} (p : D → Bool) (f : D → D) (h : ∀ d, d ∈ ds → ∀ (R : D → Rs → Prop) (R0 : Rs → Prop), (p d = true → R (f d) r) → (p d = false → R0 r) → vBind t d ρ fun ρ' => c ρ' r fun b r1 => if b = true then v ρ' r1 R else R0 r1) (k : QA ((ds.filter p).map f) r) : vLcGo t c v ρ ds r QA := by
  induction ds generalizing QA with
  | nil => exact k
  | cons d ds ih =>
    refine h d (List.mem_cons_self ..) _ _ (fun hp => ?_) (fun hp => ?_)
    · refine ih (fun d hd => h d (List.mem_cons_of_mem _ hd)) ?_
      rw [List.filter_cons_of_pos hp] at k
      exact k
    · refine ih (fun d hd => h d (List.mem_cons_of_mem _ hd)) ?_
      rw [List.filter_cons_of_neg (by rw [hp]; decide)] at k
      exact k
end
end Sn
namespace Sn
open PySem PySem.Spec PyProof.Rows L2
section
variable {X : Cx}
/-- the cases of a match, asked of the value v -/
structure PCs (X : Cx) (cs : List MatchCase) (t : V → TS) : Prop where
  run : ∀ (first : Bool) (pins : List (Addr × Obj)) (s : Shared) (σ : L2.St) (H : Hp) (D : Ends) (v : V) (u : Value), Inv X pins σ H s → RelV v u → t v D σ H → wpAny (model X.prog X.w) X.A (matchCases cs X.env u first) (SP X pins D) X.xe s
theorem pcs_nil : PCs X [] (fun _ D σ H => D.nx σ H) := ⟨fun _ pins s σ H D v u I _ h => wpAny_matchCases_nil ⟨σ, H, I, h⟩⟩
theorem ask_int {n : Int} {j : Nat} {p p' : Pos} {pins : List (Addr × Obj)} {s : Shared} {σ : L2.St} {H : Hp} {i : Int} {u : Value} {Q : Option (List (Str × Value)) → Shared → Prop} (I : Inv X pins σ H s) (r : RelV (.int i) u)
    (h : ∀ s', Inv X pins σ H s' → if decide (i = n) = true then Q (some []) s' else Q none s') : wpAny (model X.prog X.w) X.A (matchPattern (.MatchValue (.Constant (.int n) j p) p') X.env u) Q X.xe s := by
  refine wpAny_matchPattern_Value (wpAny_Constant_int ?_)
  refine wpAny_mono (op_eq pins _ σ H (.int i) (.int n) u _ (fun z H' => z = .bl (decide (i = n)) ∧ H' = H) (I.tok _) r ⟨_, rfl⟩ ⟨rfl, by simp, rfl⟩) ?_ fun _ _ z => z
  rintro c s3 ⟨z, H3, I3, r3, rfl, rfl⟩
  cases r3
  refine wpAny_truthy_bool ?_
  exact h s3 I3
/-- case n: body -/
theorem pcs_int {n : Int} {j : Nat} {p p' : Pos} {body : List Stmt} {rest : List MatchCase} {tb : TS} {tr : V → TS} (hb : PSs X body tb) (hr : PCs X rest tr) :
    PCs X (⟨.MatchValue (.Constant (.int n) j p) p', none, body⟩ :: rest) (fun v D σ H => ∃ i, v = .int i ∧ if decide (i = n) = true then tb D σ H else tr v D σ H) := by
  refine ⟨fun first pins s σ H D v u I r h => ?_⟩
  obtain ⟨i, rfl, h⟩ := h
  refine wpAny_matchCases_cons (ask_int I r fun s' I' => ?_)
  cases hd : decide (i = n) with
  | true =>
    rw [hd] at h
    exact assignInOrder_nil (hb.run pins s' σ H D I' h)
  | false =>
    rw [hd] at h
    exact hr.run false pins s' σ H D _ u I' r h
/-- case n if t: body -/
theorem pcs_intG {n : Int} {j : Nat} {p p' : Pos} {g : Expr} {body : List Stmt} {rest : List MatchCase} {tg : TT} {tb : TS} {tr : V → TS} (hg : PT X g tg) (hb : PSs X body tb) (hr : PCs X rest tr) :
    PCs X (⟨.MatchValue (.Constant (.int n) j p) p', some g, body⟩ :: rest) (fun v D σ H => ∃ i, v = .int i ∧ if decide (i = n) = true then tg σ H (fun b H1 => if b = true then tb D σ H1 else tr v D σ H1) else tr v D σ H) := by
  refine ⟨fun first pins s σ H D v u I r h => ?_⟩
  obtain ⟨i, rfl, h⟩ := h
  refine wpAny_matchCases_cons (ask_int I r fun s' I' => ?_)
  cases hd : decide (i = n) with
  | true =>
    rw [hd] at h
    refine assignInOrder_nil (wpAny_mono (hg.run pins s' σ H _ I' h) ?_ fun _ _ z => z)
    rintro b s2 ⟨H2, I2, q2⟩
    cases b with
    | true => exact hb.run pins s2 σ H2 D I2 q2
    | false => exact hr.run false pins s2 σ H2 D _ u I2 r q2
  | false =>
    rw [hd] at h
    exact hr.run false pins s' σ H D _ u I' r h
theorem ps_match {e : Expr} {cs : List MatchCase} {pos : Pos} {te : TE} {t : V → TS} (he : PE X e te) (hc : PCs X cs t) : PS X (.Match e cs pos) (fun D σ H => te σ H fun v H1 => t v D σ H1) := by
  refine ⟨fun pins s σ H D I h => ?_⟩
  refine wpAny_Match (thn (he.run pins s σ H _ I h) ?_)
  rintro u s1 ⟨v, H1, I1, r, q⟩
  exact hc.run true pins s1 σ H1 D v u I1 r q
end
end Sn
namespace Sn
open PySem PySem.Spec PyProof.Rows L2
section
variable {prog : Program} {w : World} {A : Around} {E : Value → Shared → Prop} {s : Shared}
/-- a tuple's iterator from i0 on -/
theorem walk_from {it t : Addr} {items : Array Value} {i0 : Nat} (hh : A.handled = none) (hne : t ≠ it) (h0 : i0 ≤ items.size) :
    WalksS prog w A it [it, t] [it] Eq (items.size - i0) (fun j v => items[i0 + j]? = some v) (fun j s => IsTupIter s.heap it t (i0 + j) ∧ IsTup s.heap t items) where
  sub := fun b hb => by
    rw [List.mem_singleton.mp hb]
    exact List.mem_cons.mpr (.inl rfl)
  grefl := fun _ => rfl
  gtrans := fun _ _ _ a b => a.trans b
  frame := fun i s h' tk st _ k => by
    obtain ⟨⟨o, ho, r⟩, ⟨o2, ho2, r2⟩⟩ := st
    exact ⟨⟨o, k _ (by simp) _ ho, r⟩, ⟨o2, k _ (by simp) _ ho2, r2⟩⟩
  item := fun i s Q E hi st hQ => by
    have hlt : i0 + i < items.size := by omega
    refine next_tuple_item st.1 st.2 (x := items[i0 + i]) (by simp [hlt]) fun h' hit' hs => ?_
    refine hQ _ _ (by simp [hlt]) ⟨by rw [show i0 + (i + 1) = i0 + i + 1 by omega]; exact hit', st.2.extBut hs.extBut hne⟩ ⟨fun b o hb e => ?_, rfl, rfl, rfl, Nat.le_refl _⟩
    exact hs.extBut b o (fun z => hb (by rw [z]; simp)) e
  done := fun s Q E st hQ => by
    refine next_tuple_end hh st.1 st.2 (by simp; omega) fun h' he => hQ _ ⟨fun b o hb e => ?_, rfl, rfl, rfl, Nat.le_refl _⟩
    exact he b o (fun z => hb (by rw [z]; simp)) e
  self := fun i s Q E st h => wpAny_pyIter_tupleiter st.1 h
theorem unpack_star {t : Addr} {x : Value} {xs : List Value} {Q : List Value → Shared → Prop} (hh : A.handled = none) (ht : IsTup s.heap t (x :: xs).toArray) (hz : (x :: xs).length ≤ sizeLine)
    (hQ : ∀ (h' : Heap) (tk : Nat), (∀ b o, s.heap.get? b = some o → h'.get? b = some o) → Q [x, .ref h'.objs.size] { s with heap := h'.push { cls := .type "list", data := .seq xs.toArray }, toks := tk }) :
    wpAny (model prog w) A (unpackItems (.ref t) 2 (some 1)) Q E s := by
  have hlt : t ≠ s.heap.objs.size := by obtain ⟨o, ho, _⟩ := ht; exact Nat.ne_of_lt (Heap.lt_size ho)
  unfold unpackItems
  refine wpAny_bind ?_
  unfold notIterableAtAll
  refine wpAny_bind (wpAny_specialOf ht.typeIs slot_tuple_iter.lookup ?_)
  refine wpAny_pure ?_
  simp only [Bool.false_eq_true, if_false]
  refine wpAny_bind (wpAny_holding (iter_tuple ht ?_))
  refine wpAny_bind (wpAny_holding (draw_tuple hlt 1 0 _ _ ⟨_, Heap.get?_push_size _ rfl, rfl, rfl⟩ (ht.push _) (by simp) fun h1 hit1 hs1 => ?_))
  have ht1 : IsTup h1 t (x :: xs).toArray := (ht.push _).extBut hs1.extBut hlt
  rw [if_neg (by simp)]
  have sz : s.heap.objs.size < h1.objs.size := by
    obtain ⟨o, ho, _⟩ := hit1
    exact Heap.lt_size ho
  have keep1 : ∀ b o, s.heap.get? b = some o → h1.get? b = some o := fun b o e => hs1.extBut b o (Nat.ne_of_lt (Heap.lt_size e)) (Heap.get?_push_of_some _ e)
  refine wpAny_bind (wpAny_holding (wpAny_collect_iter (T := "tuple_iterator") (.inr (.inr (.inr rfl))) (walk_from (A := A.in1) (items := (x :: xs).toArray) (i0 := 1) hh hlt (by simp)) (fun i s st => ?_) ⟨hit1, ht1⟩ ?_ (by simp) (fun s' acc mo it => ?_) ?_))
  · obtain ⟨o, ho, hc, _⟩ := st.1
    exact ⟨o, ho, hc⟩
  · intro b hb
    simp only [List.mem_cons, List.not_mem_nil, or_false] at hb
    rcases hb with rfl | rfl
    · exact sz
    · obtain ⟨o, ho, _⟩ := ht1
      exact Heap.lt_size ho
  · have ea : acc.toList = xs := by
      apply List.ext_getElem?
      intro j
      have hsz : acc.size = xs.length := by
        have := it.1
        simpa using this
      by_cases hj : j < xs.length
      · have h1 : acc[j]? = some acc[j] := by simp [hsz, hj]
        have h2 : (x :: xs).toArray[1 + j]? = some acc[j] := it.2 j _ h1
        have h3 : (x :: xs).toArray[1 + j]? = xs[j]? := by
          rw [Nat.add_comm]; simp
        rw [h3] at h2
        rw [Array.getElem?_toList, h1, h2]
      · have n1 : acc.toList[j]? = none := List.getElem?_eq_none (by rw [Array.length_toList, hsz]; omega)
        have n2 : xs[j]? = none := List.getElem?_eq_none (by omega)
        rw [n1, n2]
    rw [ea]
    have e0 : xs.length - (2 - 1 - 1) = xs.length := by omega
    rw [if_neg (by omega), e0, List.take_length, List.drop_length]
    have hz2 : xs.length ≤ sizeLine := by
      simp only [List.length_cons] at hz
      omega
    refine wpAny_bind (wpAny_newObj_type ?_ (by first | exact hz2 | simpa using hz2))
    · refine wpAny_pure ?_
      obtain ⟨mh, mg, md, mos, mt⟩ := mo
      obtain ⟨h2, g2, d2, tk2, os2⟩ := s'
      simp only at mh mg md mos mt
      subst mg md mos
      have keep2 : ∀ b o, s.heap.get? b = some o → h2.get? b = some o := fun b o e => mh b o (fun hb => Nat.ne_of_lt (Heap.lt_size e) (by simpa using hb)) (keep1 b o e)
      exact hQ h2 tk2 keep2
  · simp at hz ⊢
    omega
end
section
variable {X : Cx}
/-- w, *r = t -/
def gStar (K : PySem.W.Frag) (t0 t1 : TG) : TG := fun v σ H Q => ∃ a x xs, v = .ref a ∧ SqT K H a (x :: xs) ∧ ∀ l, H l = none → t0 x σ (upd H l (.lst xs)) fun σ1 H1 => t1 (.ref l) σ1 H1 Q
theorem pg_star {e0 e1 : Expr} {t0 t1 : TG} {k : Nat} {p pos : Pos} (hc : X.calm = true) (h0 : PG X e0 t0) (h1 : PG X e1 t1) (hs : assignEach [e0, .Starred e1 p] X.env = [(false, assign e0 X.env), (true, assign e1 X.env)] := by rfl) :
    PG X (.Tuple [e0, .Starred e1 p] k pos) (gStar X.K t0 t1) := by
  refine ⟨fun pins s σ H v u Q I r hw => ?_⟩
  obtain ⟨a, x, xs, rfl, hq, hw⟩ := hw
  cases r
  obtain ⟨its, rv, ht, hz⟩ := I.tuple hq
  rw [arm_assign_Tuple, hs]
  refine wpAny_bind (wpAny_standAt ?_)
  match its, rv with
  | y :: ys, .cons r1 r2 =>
  show wpAny _ _ (unpack _ _) _ _ _
  unfold unpack
  refine wpAny_bind (wpAny_holding (unpack_star (I.ok.hd hc) ht (by have := r2.length; simp only [List.length_cons] at hz ⊢; omega) fun h' tk kp => ?_))
  have I1 : Inv X pins σ H { s with heap := h', toks := tk } := I.kept kp
  have hf : H h'.objs.size = none := I1.hok.fresh (Nat.le_refl _)
  have I2 : Inv X pins σ (upd H h'.objs.size (.lst xs)) { s with heap := h'.push { cls := .type "list", data := .seq ys.toArray }, toks := tk } :=
    I1.laid (t' := tk) (fun b u e => Heap.get?_push_of_some _ e) (Nat.le_refl _) ⟨by
      have := r2.length
      simp at hz
      omega, ys, 0, r2, Heap.get?_push_size _ rfl⟩
  refine assignInOrder_cons (thn (h0.run pins _ σ _ x y _ I2 r1 (hw _ hf)) ?_)
  rintro _ s2 ⟨σ1, H1, I3, q3⟩
  refine assignInOrder_cons (thn (h1.run pins _ σ1 H1 (.ref h'.objs.size) _ _ I3 rfl q3) ?_)
  rintro _ s3 ⟨σ2, H2, I4, q4⟩
  exact assignInOrder_nil ⟨σ2, H2, I4, q4⟩
end
end Sn
namespace Sn
open PySem PySem.Spec PyProof.Rows L2
/-- cases, asked of data -/
def liftC (K : PySem.W.Frag) (M : Mode) (B O O' : List Nat) (t : D → VTS) : V → TS := fun v Ds σ H => ∃ (A : Amb) (W0 : Addr → Prop) (H0 : Hp) (W : Addr → Prop) (ρ : En) (r : Rs) (N : VN) (d : D), Env K A W0 H0 O W σ H ρ r ∧ Dw K A W H v d ∧ t d N ρ r ∧
  (∀ ρ' r', N.nx ρ' r' → ∀ σ' H' W', Env K A W0 H0 O' W' σ' H' ρ' r' → StpV K W H W' H' → Ds.nx σ' H') ∧
  (∀ d r', N.rt d r' → ∀ v H' W', Ext K A W0 H0 W' H' → Res K A W' H' r' → M K A H0 W' H' v d → Ds.rt v H') ∧
  (∀ ρ' r', N.bk ρ' r' → ∀ σ' H' W', Env K A W0 H0 B W' σ' H' ρ' r' → StpV K W H W' H' → Ds.bk σ' H') ∧
  (∀ ρ' r', N.ct ρ' r' → ∀ σ' H' W', Env K A W0 H0 B W' σ' H' ρ' r' → StpV K W H W' H' → Ds.ct σ' H')
def VCs (X : Cx) (M : Mode) (B O O' : List Nat) (cs : List MatchCase) (t : D → VTS) : Prop := PCs X cs (liftC X.K M B O O' t)
def vcEnd : D → VTS := fun _ N ρ r => N.nx ρ r
def vcInt (n : Int) (s : VTS) (t : D → VTS) : D → VTS := fun d N ρ r => ∃ i, d = .int i ∧ if decide (i = n) = true then s N ρ r else t d N ρ r
def vcIntG (n : Int) (c : VTT) (s : VTS) (t : D → VTS) : D → VTS := fun d N ρ r => ∃ i, d = .int i ∧ if decide (i = n) = true then c ρ r fun b r1 => if b = true then s N ρ r1 else t d N ρ r1 else t d N ρ r
def vcStr (z : Str) (s : VTS) (t : D → VTS) : D → VTS := fun d N ρ r => ∃ y, d = .str y ∧ if decide (y = z) = true then s N ρ r else t d N ρ r
def vMatch (v : VT) (t : D → VTS) : VTS := fun N ρ r => v ρ r fun d r1 => t d N ρ r1
def vAsgStar (i j : Nat) (v : VT) : VTS := fun N ρ r => v ρ r fun d r1 => ∃ x xs, d = .tuple (x :: xs) ∧ N.nx ((ρ.set i (some x)).set j (some (.list xs))) r1
section
variable {X : Cx} {M : Mode} {B O O' : List Nat} {e g : Expr} {body sts : List Stmt} {st : Stmt} {rest cs : List MatchCase} {s1 : VTS} {t : D → VTS} {v1 : VT} {c1 : VTT} {pos : Pos} {i j : Nat}
theorem PCs.imp {t t' : V → TS} (h : PCs X cs t) (k : ∀ v D σ H, t' v D σ H → t v D σ H) : PCs X cs t' := ⟨fun first pins s σ H D v u I r q => h.run first pins s σ H D v u I r (k v D σ H q)⟩
theorem vcs_nil : VCs X M B O O [] vcEnd := PCs.imp pcs_nil fun v D σ H q => by
  obtain ⟨A, W0, H0, W, ρ, r, N, d, E, m, q, kn, kr, kb, kc⟩ := q
  exact kn ρ r q σ H W E .refl
theorem vcs_int {n : Int} {k : Nat} {p p' : Pos} (hb : VSs X M B O O' body s1) (hr : VCs X M B O O' rest t) : VCs X M B O O' (⟨.MatchValue (.Constant (.int n) k p) p', none, body⟩ :: rest) (vcInt n s1 t) := PCs.imp (pcs_int hb hr) fun v D σ H q => by
  obtain ⟨A, W0, H0, W, ρ, r, N, d, E, m, ⟨i, rfl, q⟩, kk⟩ := q
  cases m
  refine ⟨i, rfl, ?_⟩
  split
  · rename_i hd; rw [if_pos hd] at q; exact ⟨A, W0, H0, W, ρ, r, N, E, q, kk⟩
  · rename_i hd; rw [if_neg hd] at q; exact ⟨A, W0, H0, W, ρ, r, N, _, E, .int i, q, kk⟩
theorem vcs_intG {n : Int} {k : Nat} {p p' : Pos} (hg : VTs X O g c1) (hb : VSs X M B O O' body s1) (hr : VCs X M B O O' rest t) : VCs X M B O O' (⟨.MatchValue (.Constant (.int n) k p) p', some g, body⟩ :: rest) (vcIntG n c1 s1 t) := PCs.imp (pcs_intG hg hb hr) fun v D σ H q => by
  obtain ⟨A, W0, H0, W, ρ, r, N, d, E, m, ⟨i, rfl, q⟩, kn, kr, kb, kc⟩ := q
  cases m
  refine ⟨i, rfl, ?_⟩
  split
  · rename_i hd
    rw [if_pos hd] at q
    refine ⟨A, W0, H0, W, ρ, r, _, E, q, fun b r1 q1 H1 W1 x1 E1 => ?_⟩
    have xs := x1.stp E.res.av
    cases b with
    | true => exact iteT ⟨A, W0, H0, W1, ρ, r1, N, E1, q1, fun ρ' r' q' σ' H' W' E' x' => kn ρ' r' q' σ' H' W' E' (xs.trans x'), kr, fun ρ' r' q' σ' H' W' E' x' => kb ρ' r' q' σ' H' W' E' (xs.trans x'), fun ρ' r' q' σ' H' W' E' x' => kc ρ' r' q' σ' H' W' E' (xs.trans x')⟩
    | false => exact iteF ⟨A, W0, H0, W1, ρ, r1, N, _, E1, .int i, q1, fun ρ' r' q' σ' H' W' E' x' => kn ρ' r' q' σ' H' W' E' (xs.trans x'), kr, fun ρ' r' q' σ' H' W' E' x' => kb ρ' r' q' σ' H' W' E' (xs.trans x'), fun ρ' r' q' σ' H' W' E' x' => kc ρ' r' q' σ' H' W' E' (xs.trans x')⟩
  · rename_i hd; rw [if_neg hd] at q; exact ⟨A, W0, H0, W, ρ, r, N, _, E, .int i, q, kn, kr, kb, kc⟩
theorem vs_match (he : VE X O e v1) (hc : VCs X M B O O' cs t) : VS X M B O O' (.Match e cs pos) (vMatch v1 t) := PS.imp (ps_match he hc) fun D σ H q => by
  obtain ⟨A, W0, H0, W, ρ, r, N, E, q, kn, kr, kb, kc⟩ := q
  refine ⟨A, W0, H0, W, ρ, r, _, E, q, fun d r1 q1 v H1 W1 x1 E1 m1 => ?_⟩
  have xs := x1.stp E.res.av
  exact ⟨A, W0, H0, W1, ρ, r1, N, d, E1, m1, q1, fun ρ' r' q' σ' H' W' E' x' => kn ρ' r' q' σ' H' W' E' (xs.trans x'), kr, fun ρ' r' q' σ' H' W' E' x' => kb ρ' r' q' σ' H' W' E' (xs.trans x'), fun ρ' r' q' σ' H' W' E' x' => kc ρ' r' q' σ' H' W' E' (xs.trans x')⟩
/-- w, *r = t -/
theorem vs_asgStar {e0 e1 : Expr} {k : Nat} {p tp : Pos} (hc : X.calm = true) (he : VE X O e v1) (h0 : PG X e0 (gName i)) (h1 : PG X e1 (gName j)) (n0 : i ∉ O := by decide) (n1 : j ∉ O := by decide)
    (hs' : assignEach [e0, .Starred e1 p] X.env = [(false, assign e0 X.env), (true, assign e1 X.env)] := by rfl)
    (hs : swapsWithSole [.Tuple [e0, .Starred e1 p] k tp] e pos.line X.env = pure false := by rfl) (hw : swappedStores [.Tuple [e0, .Starred e1 p] k tp] e X.env = pure none := by rfl) (hh : (assignEach [.Tuple [e0, .Starred e1 p] k tp] X.env).map (·.2) = [assign (.Tuple [e0, .Starred e1 p] k tp) X.env] := by rfl) :
    VS X M B O O (.Assign [.Tuple [e0, .Starred e1 p] k tp] e pos) (vAsgStar i j v1) := PS.imp (ps_asg he (pg_star hc h0 h1 hs') hs hw hh) fun D σ H q => by
  obtain ⟨A, W0, H0, W, ρ, r, N, E, q, kn, kr, kb, kc⟩ := q
  refine ⟨A, W0, H0, W, ρ, r, _, E, q, fun d r1 q1 v H1 W1 x1 E1 m1 => ?_⟩
  obtain ⟨x, xs, rfl, q1⟩ := q1
  cases m1 with
  | tup h hx =>
    cases hx with
    | cons hx hxs =>
      rename_i vx vxs
      refine ⟨_, vx, vxs, rfl, h, fun l hl => ?_⟩
      have s1 := same_new (o := .lst vxs) hl
      have E2 := (E1.new (o := .lst vxs) hl).plus (p := l) (E1.res.uNew hl) (by rw [upd_same]; simp) (E1.h0 hl) (E1.fresh hl)
      have st : StpV X.K W1 H1 (wPlus W1 l) (upd H1 l (.lst vxs)) := ⟨fun a o _ e => s1 a o e, fun a ys e => sqT_same s1 e, fun _ e => .inl e⟩
      exact kn _ r1 q1 _ _ _ ((E2.set n0 (hx.stp st)).set n1 (.lst (.inr rfl) upd_same (hxs.stp st))) ((x1.stp E.res.av).trans st)
end
end Sn
namespace Sn
open PySem PySem.Spec PyProof.Rows L2
section
variable {ρ : En} {r : Rs} {Q : D → Rs → Prop} {N : VN} {s : VTS} {t : D → VTS} {v : VT} {c : VTT} {d : D} {i j : Nat}
theorem i_match (h : v ρ r fun d r1 => t d N ρ r1) : vMatch v t N ρ r := h
theorem i_cEnd (h : N.nx ρ r) : vcEnd d N ρ r := h
theorem i_cIntT {k n : Int} (e : decide (k = n) = true) (h : s N ρ r) : vcInt n s t (.int k) N ρ r := ⟨k, rfl, by rw [if_pos e]; exact h⟩
theorem i_cIntF {k n : Int} (e : decide (k = n) = false) (h : t (.int k) N ρ r) : vcInt n s t (.int k) N ρ r := ⟨k, rfl, by rw [if_neg (by rw [e]; decide)]; exact h⟩
theorem i_cGT {k n : Int} (e : decide (k = n) = true) (h : c ρ r fun b r1 => if b = true then s N ρ r1 else t (.int k) N ρ r1) : vcIntG n c s t (.int k) N ρ r := ⟨k, rfl, by rw [if_pos e]; exact h⟩
theorem i_cGF {k n : Int} (e : decide (k = n) = false) (h : t (.int k) N ρ r) : vcIntG n c s t (.int k) N ρ r := ⟨k, rfl, by rw [if_neg (by rw [e]; decide)]; exact h⟩
theorem i_cStrT {y z : Str} (e : y = z) (h : s N ρ r) : vcStr z s t (.str y) N ρ r := ⟨y, rfl, by rw [if_pos (by simpa using e)]; exact h⟩
theorem i_cStrF {y z : Str} (e : y ≠ z) (h : t (.str y) N ρ r) : vcStr z s t (.str y) N ρ r := ⟨y, rfl, by rw [if_neg (by simpa using e)]; exact h⟩
theorem i_star (h : v ρ r fun d r1 => ∃ x xs, d = .tuple (x :: xs) ∧ N.nx ((ρ.set i (some x)).set j (some (.list xs))) r1) : vAsgStar i j v N ρ r := h
theorem i_exStar {x : D} {xs : List D} {P : D → List D → Prop} (h : P x xs) : ∃ y ys, (.tuple (x :: xs) : D) = .tuple (y :: ys) ∧ P y ys := ⟨x, xs, rfl, h⟩
theorem ll_emp : (Str.empty : Str).length = 0 := rfl
theorem i_exL {A : List D} {P : List D → Prop} (h : P A) : ∃ es, (.list A : D) = .list es ∧ P es := ⟨A, rfl, h⟩
theorem i_pT {A B : Prop} (h : A) : if True then A else B := by rw [if_pos True.intro]; exact h
theorem i_pF {A B : Prop} (h : B) : if False then A else B := by rw [if_neg id]; exact h
/-- what isinstance says of kinds -/
theorem ty_tt : isTy1 "tuple" "tuple" = true := by decide +kernel
theorem ty_ts : isTy1 "tuple" "str" = false := by decide +kernel
theorem ty_ti : isTy1 "tuple" "int" = false := by decide +kernel
theorem ty_tl : isTy1 "tuple" "list" = false := by decide +kernel
theorem ty_ss : isTy1 "str" "str" = true := by decide +kernel
theorem ty_st : isTy1 "str" "tuple" = false := by decide +kernel
/-- a promise: true of good data -/
def vfT (ok : D → Prop) : VF := fun ds r Q => ∃ d, ds = [d] ∧ ok d ∧ Q (.bool true) r
theorem i_okT {ok : D → Prop} (h : ok d) (q : Q (.bool true) r) : vfT ok [d] r Q := ⟨d, rfl, h, q⟩
end
end Sn
namespace Sn
open PySem PySem.Spec PyProof.Rows L2
/-- J walks the data ds, as long as nothing but new things come -/
def WalksX (K : PySem.W.Frag) (A : Amb) (W : Addr → Prop) (H : Hp) (J : It) (ds : List D) : Prop := ∃ (G : Hp → Prop) (Y : Nat → Hp → V → Hp → Prop), Walk J ds.length G Y ∧ (∀ W' H', Ext K A W H W' H' → G H') ∧
  ∀ i H1 W1 x H2 d, ds[i]? = some d → Ext K A W H W1 H1 → Y i H1 x H2 → Same H1 H2 ∧ Dw K A W1 H2 x d
def liftIX (K : PySem.W.Frag) (O : List Nat) (vi : VTI) : TI := fun σ H R => ∃ (A : Amb) (W0 : Addr → Prop) (H0 : Hp) (W : Addr → Prop) (ρ : En) (r : Rs) (Q0 : List D → Rs → Prop), Env K A W0 H0 O W σ H ρ r ∧ vi ρ r Q0 ∧
  ∀ ds r', Q0 ds r' → ∀ J H' W', Ext K A W H W' H' → Env K A W0 H0 O W' σ H' ρ r' → WalksX K A W' H' J ds → R J H'
def VIX (X : Cx) (O : List Nat) (tg e : Expr) (vi : VTI) : Prop := PI X tg e (liftIX X.K O vi)
section
variable {X : Cx} {O : List Nat} {elt tg iter : Expr} {ifs : List Expr} {scope : Scope} {own : List (Str × Nat)} {pos : Pos} {vi : VTI} {t : Tgt} {c : VTT} {v : VT} {e : Expr} {v1 : VT}
/-- .. over a list that may be owned -/
theorem vi_seqB (h : VB X O e v1) : VIX X O tg e (vSeqI v1) := PI.imp (pi_seq h) fun σ H R q => by
  obtain ⟨A, W0, H0, W, ρ, rs, Q0, E, q, k⟩ := q
  refine ⟨A, W0, H0, W, ρ, rs, _, E, q, fun d r1 q1 v H1 W1 x1 E1 m1 => ?_⟩
  rcases m1 with m1 | ⟨a, rfl, h1, u⟩
  · cases m1 with
    | tup h1 h2 =>
      rename_i a xs ds
      refine .inr (.inl ⟨a, rfl, ⟨xs, h1⟩, k ds r1 q1 _ H1 W1 x1 E1 ⟨_, _, ?_, fun W' H' s => s.tp _ _ h1, fun i H1 W1 x H2 d e s y => walks_at h2 e (s.stp E1.res.av) y⟩⟩)
      rw [← h2.len]
      exact walk_tup
    | lst w h1 h2 =>
      rename_i a xs ds
      refine .inl ⟨a, rfl, ⟨xs, .inl (.inl h1)⟩, k ds r1 q1 _ H1 W1 x1 E1 ⟨fun H => SqL X.K H a xs, _, ?_, fun W' H' s => SqL.of ((s.stp E1.res.av).wl _ _ w h1), fun i H1 W1 x H2 d e s y => walks_at h2 e (s.stp E1.res.av) y⟩⟩
      rw [← h2.len]
      exact walk_list
    | str z =>
      refine .inr (.inr ⟨z, rfl, k _ r1 q1 _ H1 W1 x1 E1 ⟨fun _ => True, fun i H v H' => H' = H ∧ ∃ c, z.cps[i]? = some c ∧ v = .str ⟨#[c]⟩, ?_, fun W' H' s => trivial, fun i H1 W1 x H2 d e s y => ?_⟩⟩)
      · have : (strD z).length = z.cps.size := by simp [strD]
        rw [this]
        exact walk_str
      · obtain ⟨rfl, c, hc, rfl⟩ := y
        have : d = .str ⟨#[c]⟩ := by
          simp only [strD, List.getElem?_map] at e
          rw [Array.getElem?_toList, hc] at e
          simpa using e.symm
        rw [this]
        exact ⟨same_rfl, .str _⟩
    | _ => exact absurd q1 id
  · refine h1.cas (fun g => ?_) fun _ _ _ z _ _ => by rw [z] at q1; exact absurd q1 id
    clear h1
    cases g with
    | lst h1 h2 =>
      rename_i xs ds
      refine .inl ⟨a, rfl, ⟨xs, .inl (.inl h1)⟩, k ds r1 q1 _ H1 W1 x1 E1 ⟨fun H => SqL X.K H a xs, _, ?_, fun W' H' s => SqL.of (s.fr _ _ u h1), fun i H1 W1 x H2 d e s y => walks_at h2 e (s.stp E1.res.av) y⟩⟩
      rw [← h2.len]
      exact walk_list
    | _ => exact absurd q1 id
end
def vPar2O (i j : Nat) (va vb : VT) : VTS := fun N ρ r => va ρ r fun d r1 => vb ρ r1 fun e r2 => isMut d = true ∧ N.nx ((ρ.set i (some d)).set j (some e)) r2
def vInsert (i : Nat) (v1 v2 : VT) : VTS := fun N ρ r => ∃ ds, ρ[i]? = some (some (.list ds)) ∧ v1 ρ r fun k r1 => v2 ρ r1 fun d r2 => ∃ n : Int, k = .int n ∧ ds.length < sizeLine ∧ 0 ≤ n ∧ n < 2 ^ 63 ∧ N.nx (ρ.set i (some (.list (ds.take n.toNat ++ [d] ++ ds.drop n.toNat)))) r2
section
variable {ρ : En} {r : Rs} {N : VN} {v1 v2 : VT} {i j : Nat}
theorem i_insert {ds : List D} (e : ρ[i]? = some (some (.list ds))) (h : v1 ρ r fun k r1 => v2 ρ r1 fun d r2 => ∃ n : Int, k = .int n ∧ ds.length < sizeLine ∧ 0 ≤ n ∧ n < 2 ^ 63 ∧ N.nx (ρ.set i (some (.list (ds.take n.toNat ++ [d] ++ ds.drop n.toNat)))) r2) : vInsert i v1 v2 N ρ r := ⟨ds, e, h⟩
theorem i_par2O (h : v1 ρ r fun d r1 => v2 ρ r1 fun e r2 => isMut d = true ∧ N.nx ((ρ.set i (some d)).set j (some e)) r2) : vPar2O i j v1 v2 N ρ r := h
end
section
variable {X : Cx} {O : List Nat} {k : Nat} {f : Addr} {fd : FuncData} {ps : List Str} {vf : VF} {x : Str} {p pos kpos : Pos} {e : Expr} {v1 : VT} {nm : Option Str}
def kwG (us ws : List Value) : List Value := us ++ ws
def kwV (us ws : List V) : List V := us ++ ws
theorem ve_callK {ks : List Str} (F : FnOk X.prog X.w X.K X.mg X.base CX0 k f fd ps (spV X.K mF vf)) (hr : Room k X.A) (hg : Gl X x) (hm : X.mg x = some (.ref f)) (hk : PySem.W.keepIn X.K (.ref f) = true) (hb : KBinds X.K fd ps ks kwG kwV)
    (ha : VE X O e v1) (hall : (backToKw pos (keywordEach [⟨nm, e, kpos⟩] X.env)).all (·.1.isSome) = true := by rfl)
    (hks : (backToKw pos (keywordEach [⟨nm, e, kpos⟩] X.env)).filterMap (·.1) = ks := by rfl) (hdb : (x == ("__debug__" : Str)) = false := by decide)
    (hpl : (backToKw pos (keywordEach [⟨nm, e, kpos⟩] X.env)).any (·.1.isNone) = false := by rfl) :
    VE X O (.Call (.Name x p) [] [⟨nm, e, kpos⟩] pos) (vCall vf (vCons v1 vNil)) := PE.imp (pe_callK0 (E := E0) F hr hg hm hk hb pass0 (pk_cons ha pk_nil) hall hks hdb hpl) fun σ H Q q => by
  obtain ⟨A, W0, H0, W, ρ, r, Q0, E, q, k⟩ := q
  refine ⟨A, W0, H0, W, ρ, r, _, E, q, fun d r1 q1 v H1 W1 x1 E1 m1 => ?_⟩
  exact ⟨A, W1, [d], r1, _, E1.res, .cons m1 .nil, q1, fun d r2 q2 v H2 W2 x2 R2 m2 => k d r2 q2 v H2 W2 (x1.trans x2) (E1.ext x2 R2) m2⟩
end
end Sn
namespace Sn
open PySem PySem.Spec PyProof.Rows L2
def vPar2FO (i j : Nat) (va vb : VT) : VTS := fun N ρ r => va ρ r fun d r1 => vb ρ r1 fun e r2 => isMut e = true ∧ N.nx ((ρ.set i (some d)).set j (some e)) r2
def vPar2OO (i j : Nat) (va vb : VT) : VTS := fun N ρ r => va ρ r fun d r1 => vb ρ r1 fun e r2 => isMut d = true ∧ isMut e = true ∧ N.nx ((ρ.set i (some d)).set j (some e)) r2
/-- x.append(y.pop(k)) -/
def vAppPop (i j : Nat) (v : VT) : VTS := fun N ρ r => ∃ ds es, ρ[i]? = some (some (.list ds)) ∧ ρ[j]? = some (some (.list es)) ∧ v ρ r fun k r1 => ∃ (n : Nat) (d : D), k = .int n ∧ es[n]? = some d ∧ n < 2 ^ 62 ∧ ds.length < sizeLine ∧ N.nx ((ρ.set j (some (.list (es.eraseIdx n)))).set i (some (.list (ds ++ [d])))) r1
section
variable {K : PySem.W.Frag} {A : Amb} {W : Addr → Prop} {H : Hp}
theorem DwA.eraseIdx : ∀ {vs : List V} {ds : List D}, DwA K A W H vs ds → ∀ n, DwA K A W H (vs.eraseIdx n) (ds.eraseIdx n)
  | _, _, .nil, _ => .nil
  | _, _, .cons h a, 0 => a
  | _, _, .cons h a, n + 1 => .cons h (DwA.eraseIdx a n)
end
section
variable {ρ : En} {r : Rs} {N : VN} {v1 v2 v : VT} {i j : Nat}
theorem i_par2FO (h : v1 ρ r fun d r1 => v2 ρ r1 fun e r2 => isMut e = true ∧ N.nx ((ρ.set i (some d)).set j (some e)) r2) : vPar2FO i j v1 v2 N ρ r := h
theorem i_par2OO (h : v1 ρ r fun d r1 => v2 ρ r1 fun e r2 => isMut d = true ∧ isMut e = true ∧ N.nx ((ρ.set i (some d)).set j (some e)) r2) : vPar2OO i j v1 v2 N ρ r := h
theorem i_appPop {ds es : List D} (e1 : ρ[i]? = some (some (.list ds))) (e2 : ρ[j]? = some (some (.list es))) (h : v ρ r fun k r1 => ∃ (n : Nat) (d : D), k = .int n ∧ es[n]? = some d ∧ n < 2 ^ 62 ∧ ds.length < sizeLine ∧ N.nx ((ρ.set j (some (.list (es.eraseIdx n)))).set i (some (.list (ds ++ [d])))) r1) : vAppPop i j v N ρ r := ⟨ds, es, e1, e2, h⟩
end
end Sn
namespace Sn
open PySem PySem.Spec PyProof.Rows L2
inductive ArgV where
  | f (v : VT)
  | l (v : VT)
  | m (i : Nat)
def vArgs : List ArgV → VTA
  | [], _, r, Q => Q [] r
  | .f v :: as, ρ, r, Q => v ρ r fun d r1 => vArgs as ρ r1 fun ds r2 => Q (d :: ds) r2
  | .l v :: as, ρ, r, Q => v ρ r fun d r1 => vArgs as ρ r1 fun ds r2 => Q (d :: ds) r2
  | .m i :: as, ρ, r, Q => ∃ d, ρ[i]? = some (some d) ∧ vArgs as ρ r fun ds r2 => Q (d :: ds) r2
inductive ArgsR (K : PySem.W.Frag) (A : Amb) (W : Addr → Prop) (H : Hp) (σ : L2.St) (ρ : En) : List ArgV → List V → List D → Prop
  | nil : ArgsR K A W H σ ρ [] [] []
  | f {t : VT} {as : List ArgV} {v : V} {vs : List V} {d : D} {ds : List D} : Dw K A W H v d → ArgsR K A W H σ ρ as vs ds → ArgsR K A W H σ ρ (.f t :: as) (v :: vs) (d :: ds)
  | l {t : VT} {as : List ArgV} {v : V} {vs : List V} {d : D} {ds : List D} : mB K A H W H v d → ArgsR K A W H σ ρ as vs ds → ArgsR K A W H σ ρ (.l t :: as) (v :: vs) (d :: ds)
  | m {i : Nat} {as : List ArgV} {v : V} {vs : List V} {d : D} {ds : List D} : σ[i]? = some (some v) → ρ[i]? = some (some d) → ArgsR K A W H σ ρ as vs ds → ArgsR K A W H σ ρ (.m i :: as) (v :: vs) (d :: ds)
section
variable {K : PySem.W.Frag} {A : Amb} {W0 W W' W2 : Addr → Prop} {H0 H H' H2 : Hp} {O : List Nat} {σ : L2.St} {ρ : En} {r r' : Rs} {v : V} {d : D} {i : Nat} {a : Addr}
theorem Env.val (E : Env K A W0 H0 O W σ H ρ r) (e : ρ[i]? = some (some d)) : ∃ v, σ[i]? = some (some v) := by
  by_cases h0 : i + 2000 ∈ O
  · obtain ⟨v, h, _⟩ := E.rdo i d e h0
    exact ⟨v, h⟩
  by_cases hi : i ∈ O
  · obtain ⟨a, h, _⟩ := E.own i d e ⟨hi, h0⟩
    exact ⟨_, h⟩
  · obtain ⟨v, h, _⟩ := E.var i d e hi
    exact ⟨v, h⟩
theorem ArgsR.st (x : Ext K A W H W' H') (av : ∀ a, W a → ¬ A.U a) : ∀ {as : List ArgV} {vs : List V} {ds : List D}, ArgsR K A W H σ ρ as vs ds → ArgsR K A W' H' σ ρ as vs ds
  | _, _, _, .nil => .nil
  | _, _, _, .f h a => .f (h.ext x av) (a.st x av)
  | _, _, _, .l h a => .l (goodB.st h x av).any (a.st x av)
  | _, _, _, .m h e a => .m h e (a.st x av)
end
inductive AllR (K : PySem.W.Frag) (A : Amb) (W : Addr → Prop) (H : Hp) : List Bool → List V → List D → Prop
  | nil : AllR K A W H [] [] []
  | look {bs : List Bool} {v : V} {vs : List V} {d : D} {ds : List D} : mB K A H W H v d → AllR K A W H bs vs ds → AllR K A W H (true :: bs) (v :: vs) (d :: ds)
  | frz {bs : List Bool} {v : V} {vs : List V} {d : D} {ds : List D} : Dw K A W H v d → AllR K A W H bs vs ds → AllR K A W H (false :: bs) (v :: vs) (d :: ds)
section
variable {K : PySem.W.Frag} {A : Amb} {W W' : Addr → Prop} {H H' : Hp}
theorem AllR.len : ∀ {bs : List Bool} {vs : List V} {ds : List D}, AllR K A W H bs vs ds → vs.length = ds.length ∧ ds.length = bs.length
  | _, _, _, .nil => ⟨rfl, rfl⟩
  | _, _, _, .look _ a => by simp only [List.length_cons]; exact ⟨congrArg (· + 1) a.len.1, congrArg (· + 1) a.len.2⟩
  | _, _, _, .frz _ a => by simp only [List.length_cons]; exact ⟨congrArg (· + 1) a.len.1, congrArg (· + 1) a.len.2⟩
theorem AllR.get : ∀ {bs : List Bool} {vs : List V} {ds : List D}, AllR K A W H bs vs ds → ∀ {i : Nat} {d : D}, ds[i]? = some d → ∃ v, vs[i]? = some v ∧ ((bs[i]? = some true ∧ mB K A H W H v d) ∨ (bs[i]? = some false ∧ Dw K A W H v d))
  | _, _, _, .nil, i, d, h => by simp at h
  | _, _, _, .look m a, 0, d, h => by
    simp only [List.getElem?_cons_zero, Option.some.injEq] at h
    subst h
    exact ⟨_, rfl, .inl ⟨rfl, m⟩⟩
  | _, _, _, .frz m a, 0, d, h => by
    simp only [List.getElem?_cons_zero, Option.some.injEq] at h
    subst h
    exact ⟨_, rfl, .inr ⟨rfl, m⟩⟩
  | _, _, _, .look m a, i + 1, d, h => by
    simp only [List.getElem?_cons_succ] at h ⊢
    exact a.get h
  | _, _, _, .frz m a, i + 1, d, h => by
    simp only [List.getElem?_cons_succ] at h ⊢
    exact a.get h
theorem AllR.reb {B : Amb} (l : A.Like B) : ∀ {bs : List Bool} {vs : List V} {ds : List D}, AllR K A W H bs vs ds → AllR K B W H bs vs ds
  | _, _, _, .nil => .nil
  | _, _, _, .look m a => .look (NoneM.reb l m) (a.reb l)
  | _, _, _, .frz m a => .frz (m.reb l.d l.s l.as) (a.reb l)
end
/-- what a call's arguments are to a def that looks at bs -/
inductive LooksAt : List ArgV → List Bool → Prop
  | nil : LooksAt [] []
  | f {v : VT} {as : List ArgV} {bs : List Bool} : LooksAt as bs → LooksAt (.f v :: as) (false :: bs)
  | l {v : VT} {as : List ArgV} {bs : List Bool} : LooksAt as bs → LooksAt (.l v :: as) (true :: bs)
def vCallA (vf : VF) (as : List ArgV) : VT := fun ρ r Q => vArgs as ρ r fun ds r1 => vf ds r1 Q
theorem ArgsR.look {K : PySem.W.Frag} {A : Amb} {W : Addr → Prop} {H : Hp} {σ : L2.St} {ρ : En} : ∀ {as : List ArgV} {bs : List Bool} {vs : List V} {ds : List D}, ArgsR K A W H σ ρ as vs ds → LooksAt as bs → AllR K A W H bs vs ds
  | _, _, _, _, .nil, .nil => .nil
  | _, _, _, _, .f h a, .f z => .frz h (a.look z)
  | _, _, _, _, .l h a, .l z => .look h (a.look z)
end Sn
namespace Sn
open PySem PySem.Spec PyProof.Rows L2
section
variable {K : PySem.W.Frag} {A : Amb} {W : Addr → Prop} {Hs H : Hp} {v : V} {d : D} {a C : Addr} {fs : List (Str × D)}
theorem DwF.look {f : Str} : ∀ {xs : List (Str × V)} {ds : List (Str × D)}, DwF K A W H xs ds → (ds.lookup f = none → xs.lookup f = none) ∧ ∀ d, ds.lookup f = some d → ∃ v, xs.lookup f = some v ∧ Dw K A W H v d
  | _, _, .nil => ⟨fun _ => rfl, fun d h => by cases h⟩
  | _, _, .cons (k := k) h a => by
    obtain ⟨i1, i2⟩ := DwF.look (f := f) a
    by_cases e : f == k
    · simp only [List.lookup, e]
      exact ⟨fun z => (by cases z), fun d z => by cases z; exact ⟨_, rfl, h⟩⟩
    · have e : (f == k) = false := by simpa using e
      simp only [List.lookup, e]
      exact ⟨i1, i2⟩
end
/-- o.m(..) of an object of the class at C -/
def vMethA (C : Addr) (m : Str) (vf : VF) (v1 : VT) (as : List ArgV) : VT := fun ρ r Q => v1 ρ r fun d r1 => ∃ fs, d = dIns C fs ∧ fs.lookup m = none ∧ vArgs as ρ r1 fun ds r2 => vf (d :: ds) r2 Q
end Sn
namespace Sn
open PySem PySem.Spec PyProof.Rows L2
/-- the parameters bs (true: changed), their places bo -/
inductive AllX (K : PySem.W.Frag) (A : Amb) (W : Addr → Prop) (H : Hp) : Nat → List Bool → List V → List D → List (Nat × Addr) → Prop
  | nil {k : Nat} : AllX K A W H k [] [] [] []
  | frz {k : Nat} {bs : List Bool} {v : V} {vs : List V} {d : D} {ds : List D} {bo : List (Nat × Addr)} : Dw K A W H v d → AllX K A W H (k + 1) bs vs ds bo → AllX K A W H k (false :: bs) (v :: vs) (d :: ds) bo
  | mut {k : Nat} {bs : List Bool} {a : Addr} {vs : List V} {d : D} {ds : List D} {bo : List (Nat × Addr)} : Own K A W H a d → ¬ W a → ¬ A.U a → AllX K A W H (k + 1) bs vs ds bo → AllX K A W H k (true :: bs) (.ref a :: vs) (d :: ds) ((k, a) :: bo)
/-- the things handed back -/
inductive Backs (K : PySem.W.Frag) (A : Amb) (W : Addr → Prop) (H : Hp) : List (Nat × Addr) → List D → Prop
  | nil : Backs K A W H [] []
  | cons {i : Nat} {a : Addr} {bo : List (Nat × Addr)} {d : D} {ds : List D} : Own K A W H a d → ¬ W a → Backs K A W H bo ds → Backs K A W H ((i, a) :: bo) (d :: ds)
/-- .. and these places may be changed, too -/
def Amb.bow (A : Amb) (bo : List (Nat × Addr)) : Amb := { A with as := A.as ++ bo.map (·.2) }
theorem Amb.bowU {A : Amb} {bo : List (Nat × Addr)} {a : Addr} : (A.bow bo).U a ↔ A.U a ∨ a ∈ bo.map (·.2) := by
  unfold Amb.U Amb.bow
  simp only [List.mem_append]
  constructor
  · rintro (h | h | h | (h | h) | h)
    · exact .inl (.inl h)
    · exact .inl (.inr (.inl h))
    · exact .inl (.inr (.inr (.inl h)))
    · exact .inl (.inr (.inr (.inr (.inl h))))
    · exact .inr h
    · exact .inl (.inr (.inr (.inr (.inr h))))
  · rintro ((h | h | h | h | h) | h)
    · exact .inl h
    · exact .inr (.inl h)
    · exact .inr (.inr (.inl h))
    · exact .inr (.inr (.inr (.inl (.inl h))))
    · exact .inr (.inr (.inr (.inr h)))
    · exact .inr (.inr (.inr (.inl (.inr h))))
abbrev VFX := List D → Rs → (D → List D → Rs → Prop) → Prop
/-- a result together with the parameters' things -/
def dPairX (d : D) (es : List D) : D := .dict [(.none, d), (.none, .list es)]
def getE (ρ : En) : List Nat → Option (List D)
  | [] => some []
  | i :: is => match ρ[i]? with
    | some (some d) => match getE ρ is with
      | some ds => some (d :: ds)
      | none => none
    | _ => none
/-- results of a def that changes parameters bp: the result by M, and what the parameters hold -/
def mP (M : Mode) (bp : List Nat) : Mode := fun K A Hs W H v d => ∃ x es, d = dPairX x es ∧ es.length = bp.length ∧ (∀ Hs' : Hp, (∀ a, Hs a = none → (∀ p ∈ A.bo, p.2 ≠ a) → Hs' a = none) → M K A Hs' W H v x) ∧
  ∀ (k i : Nat) (a : Addr), bp[k]? = some i → (i, a) ∈ A.bo → ∃ e, es[k]? = some e ∧ Own K A W H a e ∧ ¬ W a
def vRetP (bp : List Nat) (v : VT) : VTS := fun N ρ r => v ρ r fun d r1 => ∃ es, getE ρ bp = some es ∧ N.rt (dPairX d es) r1
/-- the places of the changed parameters -/
def posT : Nat → List Bool → List Nat
  | _, [] => []
  | k, true :: bs => k :: posT (k + 1) bs
  | k, false :: bs => posT (k + 1) bs
section
variable {K : PySem.W.Frag} {A : Amb} {W W' : Addr → Prop} {H H' : Hp}
theorem AllX.len : ∀ {k : Nat} {bs : List Bool} {vs : List V} {ds : List D} {bo : List (Nat × Addr)}, AllX K A W H k bs vs ds bo → vs.length = ds.length ∧ ds.length = bs.length ∧ bo.map (·.1) = posT k bs
  | _, _, _, _, _, .nil => ⟨rfl, rfl, rfl⟩
  | _, _, _, _, _, .frz _ a => by
    obtain ⟨h1, h2, h3⟩ := a.len
    exact ⟨by simp [h1], by simp [h2], h3⟩
  | _, _, _, _, _, .mut _ _ _ a => by
    obtain ⟨h1, h2, h3⟩ := a.len
    exact ⟨by simp [h1], by simp [h2], by simp [posT, h3]⟩
theorem AllX.get : ∀ {k : Nat} {bs : List Bool} {vs : List V} {ds : List D} {bo : List (Nat × Addr)}, AllX K A W H k bs vs ds bo → ∀ {i : Nat} {d : D}, ds[i]? = some d →
    ∃ v, vs[i]? = some v ∧ ((bs[i]? = some false ∧ Dw K A W H v d) ∨ (bs[i]? = some true ∧ ∃ a, v = .ref a ∧ (k + i, a) ∈ bo ∧ Own K A W H a d ∧ ¬ W a ∧ ¬ A.U a))
  | _, _, _, _, _, .nil, i, d, h => by simp at h
  | _, _, _, _, _, .frz m a, 0, d, h => by
    simp only [List.getElem?_cons_zero, Option.some.injEq] at h
    subst h
    exact ⟨_, rfl, .inl ⟨rfl, m⟩⟩
  | _, _, _, _, _, .mut m w u a, 0, d, h => by
    simp only [List.getElem?_cons_zero, Option.some.injEq] at h
    subst h
    exact ⟨_, rfl, .inr ⟨rfl, _, rfl, by simp, m, w, u⟩⟩
  | _, _, _, _, _, .frz m a, i + 1, d, h => by
    simp only [List.getElem?_cons_succ] at h ⊢
    obtain ⟨v, h1, h2⟩ := a.get h
    refine ⟨v, h1, ?_⟩
    rw [show ∀ k : Nat, k + (i + 1) = k + 1 + i from fun k => by omega]
    exact h2
  | _, _, _, _, _, .mut m w u a, i + 1, d, h => by
    simp only [List.getElem?_cons_succ] at h ⊢
    obtain ⟨v, h1, h2⟩ := a.get h
    refine ⟨v, h1, ?_⟩
    rw [show ∀ k : Nat, k + (i + 1) = k + 1 + i from fun k => by omega]
    rcases h2 with h2 | ⟨h2, b, e, h3, h4⟩
    · exact .inl h2
    · exact .inr ⟨h2, b, e, List.mem_cons_of_mem _ h3, h4⟩
theorem AllX.mem : ∀ {k : Nat} {bs : List Bool} {vs : List V} {ds : List D} {bo : List (Nat × Addr)}, AllX K A W H k bs vs ds bo → ∀ {j : Nat} {a : Addr}, (j, a) ∈ bo →
    ∃ i d, j = k + i ∧ bs[i]? = some true ∧ vs[i]? = some (.ref a) ∧ ds[i]? = some d ∧ Own K A W H a d ∧ ¬ W a ∧ ¬ A.U a
  | _, _, _, _, _, .nil, j, a, h => by simp at h
  | _, _, _, _, _, .frz m q, j, a, h => by
    obtain ⟨i, d, h1, h2, h3, h4, h5⟩ := q.mem h
    exact ⟨i + 1, d, by omega, h2, h3, h4, h5⟩
  | _, _, _, _, _, .mut m w u q, j, a, h => by
    rcases List.mem_cons.mp h with h | h
    · cases h
      exact ⟨0, _, rfl, rfl, rfl, rfl, m, w, u⟩
    · obtain ⟨i, d, h1, h2, h3, h4, h5⟩ := q.mem h
      exact ⟨i + 1, d, by omega, h2, h3, h4, h5⟩
theorem AllX.reb {B : Amb} (l : A.Like B) : ∀ {k : Nat} {bs : List Bool} {vs : List V} {ds : List D} {bo : List (Nat × Addr)}, AllX K A W H k bs vs ds bo → AllX K B W H k bs vs ds bo
  | _, _, _, _, _, .nil => .nil
  | _, _, _, _, _, .frz m a => .frz (m.reb l.d l.s l.as) (a.reb l)
  | _, _, _, _, _, .mut m w u a => .mut (m.reb l.d l.s l.as) w (fun z => u ((l.U _).mp z)) (a.reb l)
theorem Backs.of : ∀ {bo : List (Nat × Addr)} {es : List D}, es.length = bo.length → (∀ (k i : Nat) (a : Addr), bo[k]? = some (i, a) → ∃ e, es[k]? = some e ∧ Own K A W H a e ∧ ¬ W a) → Backs K A W H bo es
  | [], [], _, _ => .nil
  | [], _ :: _, h, _ => by simp at h
  | _ :: _, [], h, _ => by simp at h
  | (i, a) :: bo, e :: es, h, g => by
    obtain ⟨e', h1, h2, h3⟩ := g 0 i a rfl
    cases h1
    exact .cons h2 h3 (Backs.of (by simpa using h) fun k j b z => by simpa using g (k + 1) j b (by simpa using z))
theorem Backs.at : ∀ {bo : List (Nat × Addr)} {es : List D}, Backs K A W H bo es → es.length = bo.length ∧ ∀ {k i : Nat} {a : Addr}, bo[k]? = some (i, a) → ∃ e, es[k]? = some e ∧ Own K A W H a e ∧ ¬ W a
  | _, _, .nil => ⟨rfl, fun {k i a} h => by simp at h⟩
  | _, _, .cons o w b => by
    obtain ⟨l, g⟩ := b.at
    refine ⟨by simp [l], fun {k i a} h => ?_⟩
    cases k with
    | zero => simp at h; obtain ⟨rfl, rfl⟩ := h; exact ⟨_, rfl, o, w⟩
    | succ k => simp only [List.getElem?_cons_succ] at h ⊢; exact g h
end
theorem Ext.bow {K : PySem.W.Frag} {A : Amb} {W W' : Addr → Prop} {H H' : Hp} {b b' : List (Nat × Addr)} (x : Ext K (A.bow b) W H W' H') (e : ∀ a, a ∈ b.map (·.2) → a ∈ b'.map (·.2)) : Ext K (A.bow b') W H W' H' := ⟨fun a o u q => x.fr a o (fun z => u (Amb.bowU.mpr ((Amb.bowU.mp z).imp id (e a)))) q, x.al, x.tp, x.wk, x.wn⟩
section
variable {P : Program} {w : World} {K : PySem.W.Frag} {mg : Str → Option Value} {base : Heap} {x qual : Str} {st : Stmt} {f : Addr} {fd : FuncData} {N ps : List Str} {k : Nat} {M : Mode} {vf : VFX} {vts : VTS} {O O' : List Nat} {bs : List Bool} {bp : List Nat}
/-- the end of the body is fallen through: None -/
def endX (bp : List Nat) (Q : D → List D → Rs → Prop) : VN := { nx := fun ρ r => ∃ es, getE ρ bp = some es ∧ Q .none es r, rt := fun p r => ∃ x es, p = dPairX x es ∧ Q x es r }
end
end Sn
namespace Sn
open PySem PySem.Spec PyProof.Rows L2
/-- the slots of the arguments that are changed -/
def mSlots : List ArgV → List Nat
  | [] => []
  | .m i :: as => i :: mSlots as
  | .f _ :: as => mSlots as
  | .l _ :: as => mSlots as
section
variable {K : PySem.W.Frag} {A : Amb} {W0 W W' : Addr → Prop} {H0 H H' : Hp} {O : List Nat} {σ : L2.St} {ρ : En} {r r' : Rs}
theorem StpV.of (x : Ext K (A.bow bo) W H W' H') (av : ∀ a, W a → ¬ (A.bow bo).U a) : StpV K W H W' H' := ⟨fun a o w e => x.fr a o (av a w) e, x.tp, x.wk⟩
end
abbrev VTM := En → Rs → (D → En → Rs → Prop) → Prop
abbrev VTMT := En → Rs → (Bool → En → Rs → Prop) → Prop
def vCallX (vf : VFX) (as : List ArgV) : VTM := fun ρ r Q => vArgs as ρ r fun ds r1 => vf ds r1 fun d es r2 => Q d (setAll ρ (mSlots as) es) r2
def vMethX (C : Addr) (m : Str) (vf : VFX) (i : Nat) (as : List ArgV) : VTM := fun ρ r Q => ∃ fs, ρ[i]? = some (some (dIns C fs)) ∧ fs.lookup m = none ∧ vArgs as ρ r fun ds r1 => vf (dIns C fs :: ds) r1 fun d es r2 => Q d (setAll ρ (i :: mSlots as) es) r2
def vPure (v : VT) : VTM := fun ρ r Q => v ρ r fun d r1 => Q d ρ r1
def vDropM (v : VTM) : VTS := fun N ρ r => v ρ r fun _ ρ1 r1 => N.nx ρ1 r1
def vSetM (i : Nat) (v : VTM) : VTS := fun N ρ r => v ρ r fun d ρ1 r1 => N.nx (ρ1.set i (some d)) r1
def vIfM (c : VTMT) (s t : VTS) : VTS := fun N ρ r => c ρ r fun b ρ1 r1 => if b = true then s N ρ1 r1 else t N ρ1 r1
def vBM (va : VTM) : VTMT := fun ρ r Q => va ρ r fun x ρ1 r1 => ∃ c, x = .bool c ∧ Q c ρ1 r1
def vNotM (va : VTMT) : VTMT := fun ρ r Q => va ρ r fun c ρ1 r1 => Q (!c) ρ1 r1
end Sn
namespace Sn
open PySem PySem.Spec PyProof.Rows L2
/-- P follows from Q, found by P's shape -/
class St (P : Prop) (Q : outParam Prop) : Prop where
  go : Q → P
section
variable {ρ : En} {r : Rs} {Q : D → Rs → Prop} {QB : Bool → Rs → Prop} {QA : List D → Rs → Prop} {N : VN} {s t : VTS} {v va vb vc v1 v2 v3 : VT} {c c1 c2 : VTT} {vs : VTA} {i j l : Nat} {d e : D} {R : D → Prop}
instance  : St (vSeq s t N ρ r) (s ⟨fun ρ' r' => t N ρ' r', N.rt, N.bk, N.ct⟩ ρ r) := ⟨fun q => i_seq q⟩
instance  : St (vSet i v N ρ r) (v ρ r fun d r1 => N.nx (ρ.set i (some d)) r1) := ⟨fun q => i_set q⟩
instance  : St (vSetO i v N ρ r) (v ρ r fun d r1 => isMut d = true ∧ N.nx (ρ.set i (some d)) r1) := ⟨fun q => i_setO q⟩
instance  : St (vDrop v N ρ r) (v ρ r fun _ r1 => N.nx ρ r1) := ⟨fun q => i_drop q⟩
instance  : St (vRet v N ρ r) (v ρ r fun d r1 => N.rt d r1) := ⟨fun q => i_ret q⟩
instance  : St (vRetN N ρ r) (N.rt .none r) := ⟨fun q => i_retN q⟩
instance  : St (vIfS c s t N ρ r) (c ρ r fun b r1 => if b = true then s N ρ r1 else t N ρ r1) := ⟨fun q => i_ifS q⟩
instance  : St (vBreak N ρ r) (N.bk ρ r) := ⟨fun q => i_break q⟩
instance  : St (vCont N ρ r) (N.ct ρ r) := ⟨fun q => i_cont q⟩
instance  : St (vNext N ρ r) (N.nx ρ r) := ⟨fun q => i_next q⟩
instance  : St (vPar2 i j vs N ρ r) (vs ρ r fun ds r1 => ∃ d e, ds = [d, e] ∧ N.nx ((ρ.set i (some d)).set j (some e)) r1) := ⟨fun q => i_par2 q⟩
instance  : St (vPar3 i j l vs N ρ r) (vs ρ r fun ds r1 => ∃ d e f, ds = [d, e, f] ∧ N.nx (((ρ.set i (some d)).set j (some e)).set l (some f)) r1) := ⟨fun q => i_par3 q⟩
instance {t : Tgt} : St (vAsgT t v N ρ r) (v ρ r fun d r1 => vBind t d ρ fun ρ' => N.nx ρ' r1) := ⟨fun q => i_asgT q⟩
instance  : St (vC d ρ r Q) (Q d r) := ⟨fun q => i_c q⟩
instance {f : D → D → (D → Prop) → Prop} : St (vOp f va vb ρ r Q) (va ρ r fun d r1 => vb ρ r1 fun e r2 => f d e fun z => Q z r2) := ⟨fun q => i_op q⟩
instance {f : D → (D → Prop) → Prop} : St (vUn f va ρ r Q) (va ρ r fun d r1 => f d fun z => Q z r1) := ⟨fun q => i_un q⟩
instance  : St (vNil ρ r QA) (QA [] r) := ⟨fun q => i_nil q⟩
instance  : St (vCons v vs ρ r QA) (v ρ r fun d r1 => vs ρ r1 fun ds r2 => QA (d :: ds) r2) := ⟨fun q => i_cons q⟩
instance  : St (vTup vs ρ r Q) (vs ρ r fun ds r1 => ds.length ≤ sizeLine ∧ Q (.tuple ds) r1) := ⟨fun q => i_tup q⟩
instance  : St (vLst vs ρ r Q) (vs ρ r fun ds r1 => ds.length ≤ sizeLine ∧ Q (.list ds) r1) := ⟨fun q => i_lst q⟩
instance {f : List D → (D → Prop) → Prop} : St (vCB f vs ρ r Q) (vs ρ r fun ds r1 => f ds fun z => Q z r1) := ⟨fun q => i_cb q⟩
instance  : St (vIf c va vb ρ r Q) (c ρ r fun b r1 => if b = true then va ρ r1 Q else vb ρ r1 Q) := ⟨fun q => i_if q⟩
instance  : St (vAndV va vb ρ r Q) (va ρ r fun x r1 => ∃ c, x = .bool c ∧ if c = true then vb ρ r1 Q else Q (.bool false) r1) := ⟨fun q => i_andV q⟩
instance  : St (vOrV va vb ρ r Q) (va ρ r fun x r1 => ∃ c, x = .bool c ∧ if c = true then Q (.bool true) r1 else vb ρ r1 Q) := ⟨fun q => i_orV q⟩
instance  : St (vNotV va ρ r Q) (va ρ r fun x r1 => ∃ c, x = .bool c ∧ Q (.bool (!c)) r1) := ⟨fun q => i_notV q⟩
instance  : St (vB va ρ r QB) (va ρ r fun x r1 => ∃ c, x = .bool c ∧ QB c r1) := ⟨fun q => i_b q⟩
instance  : St (vAnd c1 c2 ρ r QB) (c1 ρ r fun c r1 => if c = true then c2 ρ r1 QB else QB false r1) := ⟨fun q => i_and q⟩
instance  : St (vOr c1 c2 ρ r QB) (c1 ρ r fun c r1 => if c = true then QB true r1 else c2 ρ r1 QB) := ⟨fun q => i_or q⟩
instance  : St (vNot c1 ρ r QB) (c1 ρ r fun c r1 => QB (!c) r1) := ⟨fun q => i_not q⟩
instance {vf : VF} : St (vCall vf vs ρ r Q) (vs ρ r fun ds r1 => vf ds r1 Q) := ⟨fun q => i_call q⟩
instance {ty : D → Prop} {f : D → List D → (D → Prop) → Prop} : St (vMt ty f v vs ρ r Q) (v ρ r fun d r1 => ty d ∧ vs ρ r1 fun ds r2 => f d ds fun z => Q z r2) := ⟨fun q => i_mt q⟩
instance {lo hi : VTO} : St (vSl v lo hi ρ r Q) (v ρ r fun d r1 => lo ρ r1 fun l r2 => hi ρ r2 fun u r3 => dSl d l u fun z => Q z r3) := ⟨fun q => i_sl q⟩
instance {Q : Option Int → Rs → Prop} : St (vNoPart ρ r Q) (Q none r) := ⟨fun q => i_noPart q⟩
instance {Q : Option Int → Rs → Prop} : St (vPart v ρ r Q) (v ρ r fun d r1 => ∃ i, d = .int i ∧ Q (some i) r1) := ⟨fun q => i_part q⟩
instance {T : String} : St (vIsi T v ρ r Q) (v ρ r fun d r1 => ∃ n, tyN d = some n ∧ Q (.bool (isTy1 T n)) r1) := ⟨fun q => i_isi q⟩
instance {f g : D → D → (D → Prop) → Prop} : St (vChain f g va vb vc ρ r Q) (va ρ r fun d r1 => vb ρ r1 fun e r2 => f d e fun t => ∃ k, t = .bool k ∧ if k = true then vc ρ r2 fun h r3 => g e h fun z => Q z r3 else Q (.bool false) r2) := ⟨fun q => i_chain q⟩
instance  : St (vGet2 v1 v2 v3 ρ r Q) (v1 ρ r fun d r1 => (∃ kvs, d = .dict kvs ∧ isTok kvs = false) ∧ v2 ρ r1 fun k r2 => v3 ρ r2 fun e r3 => dGet2 d k e fun z => Q z r3) := ⟨fun q => i_get2 q⟩
instance {ts : List (VT × VT)} : St (vDisp ts ρ r Q) (vPairs ts ρ r fun ps r1 => dDispQ ps fun z => Q z r1) := ⟨fun q => i_disp q⟩
instance {QP : List (D × D) → Rs → Prop} : St (vPairs [] ρ r QP) (QP [] r) := ⟨fun q => i_pnil q⟩
instance {QP : List (D × D) → Rs → Prop} {vk vv : VT} {ts : List (VT × VT)} : St (vPairs ((vk, vv) :: ts) ρ r QP) (vk ρ r fun k r1 => vv ρ r1 fun d r2 => vPairs ts ρ r2 fun ps r3 => QP ((k, d) :: ps) r3) := ⟨fun q => i_pcons q⟩
instance {QJ : Str → Rs → Prop} {acc : Str} : St (vJs [] acc ρ r QJ) (QJ acc r) := ⟨fun q => i_jnil q⟩
instance {QJ : Str → Rs → Prop} {acc : Str} {ts : List VT} : St (vJs (v :: ts) acc ρ r QJ) (v ρ r fun d r1 => ∃ y : Str, d = .str y ∧ (acc ++ y).length ≤ sizeLine ∧ vJs ts (acc ++ y) ρ r1 QJ) := ⟨fun q => i_jcons q⟩
instance {vi : VTI} {t : Tgt} : St (vFor vi t s N ρ r) (vi ρ r fun ds r1 => vLoop t s ds N ρ r1) := ⟨fun q => i_for q⟩
instance  : St (vSeqI v ρ r QA) (v ρ r fun d r1 => dSeq d fun ds => QA ds r1) := ⟨fun q => i_seqI q⟩
instance  : St (vRng1 vs ρ r QA) (vs ρ r fun ds r1 => ∃ j, ds = [.int j] ∧ -(2 ^ 62) ≤ j ∧ j < 2 ^ 62 ∧ QA (rngD 0 j.toNat) r1) := ⟨fun q => i_rng1 q⟩
instance  : St (vRng2 vs ρ r QA) (vs ρ r fun ds r1 => ∃ i j, ds = [.int i, .int j] ∧ (-(2 ^ 62) ≤ i ∧ i < 2 ^ 62 ∧ -(2 ^ 62) ≤ j ∧ j < 2 ^ 62) ∧ QA (rngD i (j - i).toNat) r1) := ⟨fun q => i_rng2 q⟩
instance {ws : List Nat} {vi : VTI} {t : Tgt} : St (vLc ws vi t c v ρ r Q) (vi ρ r fun ds r1 => ds.length ≤ sizeLine ∧ vLcGo t c v (wipeE ρ ws) ds r1 fun zs r2 => Q (.list zs) r2) := ⟨fun q => i_lc q⟩
instance {ds : List D} {Q : List D → Prop} : St (dSeq (.list ds) Q) (Q ds) := ⟨fun q => i_dseqL q⟩
instance {ds : List D} {Q : List D → Prop} : St (dSeq (.tuple ds) Q) (Q ds) := ⟨fun q => i_dseqT q⟩
instance {z : Str} {Q : List D → Prop} : St (dSeq (.str z) Q) (Q (strD z)) := ⟨fun q => i_dseqS q⟩
instance {Q : En → Prop} : St (vBind (.nm i) d ρ Q) (Q (ρ.set i (some d))) := ⟨fun q => i_bind1 q⟩
instance {Q : En → Prop} {d e : D} : St (vBind (.tp [i, j]) (.tuple [d, e]) ρ Q) (Q ((ρ.set i (some d)).set j (some e))) := ⟨fun q => i_bind2 q⟩
instance {Q : En → Prop} {d e f : D} : St (vBind (.tp [i, j, l]) (.tuple [d, e, f]) ρ Q) (Q (((ρ.set i (some d)).set j (some e)).set l (some f))) := ⟨fun q => i_bind3 q⟩
instance {P : Bool → Prop} {b : Bool} : St (∃ c, (.bool b : D) = .bool c ∧ P c) (P b) := ⟨fun q => i_exb q⟩
instance {P : Int → Prop} {i : Int} : St (∃ c, (.int i : D) = .int c ∧ P c) (P i) := ⟨fun q => i_exi q⟩
instance {P : Str → Prop} {i : Str} : St (∃ c, (.str i : D) = .str c ∧ P c) (P i) := ⟨fun q => i_exs q⟩
instance {P : D → D → Prop} {d e : D} : St (∃ x y, [d, e] = [x, y] ∧ P x y) (P d e) := ⟨fun q => i_ex2 q⟩
instance {P : D → D → D → Prop} {d e f : D} : St (∃ x y z, [d, e, f] = [x, y, z] ∧ P x y z) (P d e f) := ⟨fun q => i_ex3 q⟩
instance {A B : Prop} : St (if true = true then A else B) (A) := ⟨fun q => i_tt q⟩
instance {A B : Prop} : St (if false = true then A else B) (B) := ⟨fun q => i_ff q⟩
instance {A B : Prop} : St (if (!true) = true then A else B) (B) := ⟨fun q => i_ntt q⟩
instance {A B : Prop} : St (if (!false) = true then A else B) (A) := ⟨fun q => i_nff q⟩
instance {x y : Int} : St (dEq false (.int x) (.int y) R) (R (.bool (decide (x = y)))) := ⟨fun q => i_eqI q⟩
instance {x y : Int} : St (dEq true (.int x) (.int y) R) (R (.bool (!decide (x = y)))) := ⟨fun q => i_neI q⟩
instance {g : Int → Int → Bool} {s : Str → Str → Bool} {x y : Int} : St (dCmp g s (.int x) (.int y) R) (R (.bool (g x y))) := ⟨fun q => i_cmpI q⟩
instance {g : Int → Int → D} {x y : Int} : St (dI0 g (.int x) (.int y) R) (R (g x y)) := ⟨fun q => i_I0 q⟩
instance {x y : Int} : St (dAdd (.int x) (.int y) R) (R (.int (x + y))) := ⟨fun q => i_addI q⟩
instance {A : Prop} : St (([] : List D).length ≤ sizeLine ∧ A) (A) := ⟨fun q => i_sz0 q⟩
instance {A : Prop} : St ([d].length ≤ sizeLine ∧ A) (A) := ⟨fun q => i_sz1 q⟩
instance {A : Prop} : St ([d, e].length ≤ sizeLine ∧ A) (A) := ⟨fun q => i_sz2 q⟩
instance {A : Prop} {f : D} : St ([d, e, f].length ≤ sizeLine ∧ A) (A) := ⟨fun q => i_sz3 q⟩
instance {A : Prop} {ds : List D} : St (isMut (.list ds) = true ∧ A) (A) := ⟨fun q => i_mutL q⟩
instance {A : Prop} {ds : List (D × D)} : St (isMut (.dict ds) = true ∧ A) (A) := ⟨fun q => i_mutD q⟩
instance {ds : List D} {lo hi : Option Int} : St (dSl (.list ds) lo hi R) (R (.list (cutL ds lo hi))) := ⟨fun q => i_slL q⟩
instance {ds : List D} {lo hi : Option Int} : St (dSl (.tuple ds) lo hi R) (R (.tuple (cutL ds lo hi))) := ⟨fun q => i_slT q⟩
instance {ds : List D} : St (dLen [.list ds] R) (R (.int ds.length)) := ⟨fun q => i_lenL q⟩
instance {ds : List D} : St (dLen [.tuple ds] R) (R (.int ds.length)) := ⟨fun q => i_lenT q⟩
instance {ds : List D} : St (dTupOf [.list ds] R) (R (.tuple ds)) := ⟨fun q => i_tupL q⟩
instance {ds : List D} : St (dTupOf [.tuple ds] R) (R (.tuple ds)) := ⟨fun q => i_tupT q⟩
instance {ds : List D} : St (dListOf [.list ds] R) (R (.list ds)) := ⟨fun q => i_listL q⟩
instance {ds : List D} : St (dListOf [.tuple ds] R) (R (.list ds)) := ⟨fun q => i_listT q⟩
instance {A : Prop} {z : Str} : St (tyD "str" (.str z) ∧ A) (A) := ⟨fun q => i_tyS q⟩
instance {A : Prop} {ds : List D} : St (tyD "list" (.list ds) ∧ A) (A) := ⟨fun q => i_tyL q⟩
instance {y : Str} : St (dLook2 [] y e R) (R e) := ⟨fun q => i_look2N q⟩
end
section
variable {ρ : En} {r : Rs} {Q : D → Rs → Prop} {N : VN} {s : VTS} {t : D → VTS} {v : VT} {c : VTT} {d : D} {i j : Nat}
instance  : St (vMatch v t N ρ r) (v ρ r fun d r1 => t d N ρ r1) := ⟨fun q => i_match q⟩
instance  : St (vcEnd d N ρ r) (N.nx ρ r) := ⟨fun q => i_cEnd q⟩
instance  : St (vAsgStar i j v N ρ r) (v ρ r fun d r1 => ∃ x xs, d = .tuple (x :: xs) ∧ N.nx ((ρ.set i (some x)).set j (some (.list xs))) r1) := ⟨fun q => i_star q⟩
instance {x : D} {xs : List D} {P : D → List D → Prop} : St (∃ y ys, (.tuple (x :: xs) : D) = .tuple (y :: ys) ∧ P y ys) (P x xs) := ⟨fun q => i_exStar q⟩
instance {A : List D} {P : List D → Prop} : St (∃ es, (.list A : D) = .list es ∧ P es) (P A) := ⟨fun q => i_exL q⟩
instance {A B : Prop} : St (if True then A else B) (A) := ⟨fun q => i_pT q⟩
instance {A B : Prop} : St (if False then A else B) (B) := ⟨fun q => i_pF q⟩
end
section
variable {ρ : En} {r : Rs} {N : VN} {v1 v2 : VT} {i j : Nat}
instance  : St (vPar2O i j v1 v2 N ρ r) (v1 ρ r fun d r1 => v2 ρ r1 fun e r2 => isMut d = true ∧ N.nx ((ρ.set i (some d)).set j (some e)) r2) := ⟨fun q => i_par2O q⟩
end
section
variable {ρ : En} {r : Rs} {N : VN} {v1 v2 v : VT} {i j : Nat}
instance  : St (vPar2FO i j v1 v2 N ρ r) (v1 ρ r fun d r1 => v2 ρ r1 fun e r2 => isMut e = true ∧ N.nx ((ρ.set i (some d)).set j (some e)) r2) := ⟨fun q => i_par2FO q⟩
instance  : St (vPar2OO i j v1 v2 N ρ r) (v1 ρ r fun d r1 => v2 ρ r1 fun e r2 => isMut d = true ∧ isMut e = true ∧ N.nx ((ρ.set i (some d)).set j (some e)) r2) := ⟨fun q => i_par2OO q⟩
end
end Sn
namespace Sn
open PySem PySem.Spec PyProof.Rows L2
/-- C(..), by an own __init__ -/
def vMake (C : Addr) (vf : VFX) (as : List ArgV) : VT := fun ρ r Q => vArgs as ρ r fun ds r1 => vf (dIns C [] :: ds) r1 fun d es r2 => d = .none ∧ ∃ s, es = [s] ∧ isMut s = true ∧ Q s r2
def putFd (f : Str) (d : D) : List (Str × D) → List (Str × D)
  | [] => [(f, d)]
  | (g, x) :: r => if g = f then (g, d) :: r else (g, x) :: putFd f d r
def vSetF (i : Nat) (C : Addr) (f : Str) (v : VT) : VTS := fun N ρ r => v ρ r fun d r1 => ∃ fs, ρ[i]? = some (some (dIns C fs)) ∧ fs.length < 1000 ∧ N.nx (ρ.set i (some (dIns C (putFd f d fs)))) r1
def vItemX (C : Addr) (vf : VFX) (i : Nat) (vk vv : VT) : VTS := fun N ρ r => vv ρ r fun d r1 => ∃ fs, ρ[i]? = some (some (dIns C fs)) ∧ vk ρ r1 fun kk r2 => vf [dIns C fs, kk, d] r2 fun _ es r3 => N.nx (setAll ρ [i] es) r3
def vDput (i : Nat) (vk vv : VT) : VTS := fun N ρ r => vv ρ r fun d r1 => ∃ kvs, ρ[i]? = some (some (.dict kvs)) ∧ isTok kvs = false ∧ (kvs.map (·.1)).Nodup ∧ vk ρ r1 fun kk r2 => ∃ key, keyOfD kk = some key ∧ kvs.length < sizeLine ∧ N.nx (ρ.set i (some (.dict (putD kvs key d)))) r2
section
variable {K : PySem.W.Frag} {A : Amb} {W : Addr → Prop} {H : Hp}
theorem DwF.put {f : Str} {v : V} {d : D} (h : Dw K A W H v d) : ∀ {xs : List (Str × V)} {ds : List (Str × D)}, DwF K A W H xs ds → DwF K A W H (putF f v xs) (putFd f d ds)
  | _, _, .nil => .cons h .nil
  | _, _, .cons (k := g) h' a => by
    unfold putF putFd
    split
    · exact .cons h a
    · exact .cons h' (DwF.put h a)
theorem DwK.keys : ∀ {xs : List (Key × V)} {ds : List (D × D)}, DwK K A W H xs ds → ds.map (·.1) = (xs.map (·.1)).map keyD
  | _, _, .nil => rfl
  | _, _, .cons _ a => by simp only [List.map_cons, a.keys]
theorem nodup_map {α β : Type} {f : α → β} : ∀ {l : List α}, (l.map f).Nodup → l.Nodup
  | [], _ => List.nodup_nil
  | a :: l, h => by
    simp only [List.map_cons, List.nodup_cons] at h ⊢
    exact ⟨fun z => h.1 (List.mem_map.mpr ⟨a, z, rfl⟩), nodup_map h.2⟩
theorem DwK.nd {xs : List (Key × V)} {ds : List (D × D)} (h : DwK K A W H xs ds) (nd : (ds.map (·.1)).Nodup) : (xs.map (·.1)).Nodup := by
  rw [h.keys] at nd
  exact nodup_map nd
end
end Sn
namespace Sn
open PySem PySem.Spec PyProof.Rows L2
/-- the same but that the dict at a is locked or not -/
structure SL (a : Addr) (xs : List (Key × V)) (H H' : Hp) : Prop where
  ne : ∀ b, b ≠ a → H' b = H b
  h : IsK H a xs
  h' : IsK H' a xs
theorem SL.sym {a : Addr} {xs : List (Key × V)} {H H' : Hp} (s : SL a xs H H') : SL a xs H' H := ⟨fun b n => (s.ne b n).symm, s.h', s.h⟩
theorem IsK.inj {a : Addr} {xs ys : List (Key × V)} {H : Hp} (h : IsK H a xs) (g : IsK H a ys) : xs = ys := by
  rcases h with h | ⟨o, h⟩ <;> rcases g with g | ⟨u, g⟩ <;> (rw [h] at g; cases g) <;> rfl
section
variable {K : PySem.W.Frag} {A : Amb} {W W' W0 : Addr → Prop} {H H' H0 : Hp} {a : Addr} {xs : List (Key × V)} {r : Rs}
theorem SL.at_ {b : Addr} {o : HO} (s : SL a xs H H') (e : H b = some o) (n : ∀ ys u, o ≠ .dK ys ∧ o ≠ .frz u (.dK ys)) : H' b = some o := by
  by_cases q : b = a
  · subst q
    rcases s.h with h | ⟨u, h⟩
    · rw [h] at e; cases e; exact absurd rfl (n xs default).1
    · rw [h] at e; cases e; exact absurd rfl (n xs u).2
  · rw [s.ne b q]; exact e
theorem SL.tup {b : Addr} {ys : List V} (s : SL a xs H H') (h : SqT K H b ys) : SqT K H' b ys := by
  rcases h with (h | ⟨u, h⟩) | h
  · exact .inl (.inl (s.at_ h fun _ _ => ⟨fun z => (by cases z), fun z => (by cases z)⟩))
  · exact .inl (.inr ⟨u, s.at_ h fun _ _ => ⟨fun z => (by cases z), fun z => (by cases z)⟩⟩)
  · exact .inr h
theorem SL.isK {b : Addr} {ys : List (Key × V)} (s : SL a xs H H') (h : IsK H b ys) : IsK H' b ys := by
  by_cases q : b = a
  · subst q
    rw [h.inj s.h]
    exact s.h'
  · unfold IsK
    rw [s.ne b q]
    exact h
theorem SL.none {b : Addr} (s : SL a xs H H') (h : H' b = none) : H b = none := by
  by_cases q : b = a
  · subst q; exact absurd h s.h'.some
  · rw [← s.ne b q]; exact h
mutual
theorem Dw.sl (s : SL a xs H H') : ∀ {v : V} {d : D}, Dw K A W H v d → Dw K A W H' v d
  | _, _, .non => .non
  | _, _, .bl b => .bl b
  | _, _, .int i => .int i
  | _, _, .str z => .str z
  | _, _, .tup h q => .tup (s.tup h) (DwA.sl s q)
  | _, _, .lst w h q => .lst w (s.at_ h fun _ _ => ⟨fun z => (by cases z), fun z => (by cases z)⟩) (DwA.sl s q)
  | _, _, .dk w h q => .dk w (s.isK h) (DwK.sl s q)
  | _, _, .st => .st
  | _, _, .scr => .scr
  | _, _, .cell h => .cell h
  | _, _, .obj b => .obj b
  | _, _, .ins w w2 h h2 q => .ins w w2 (s.at_ h fun _ _ => ⟨fun z => (by cases z), fun z => (by cases z)⟩) (s.at_ h2 fun _ _ => ⟨fun z => (by cases z), fun z => (by cases z)⟩) (DwF.sl s q)
theorem DwA.sl (s : SL a xs H H') : ∀ {v : List V} {d : List D}, DwA K A W H v d → DwA K A W H' v d
  | _, _, .nil => .nil
  | _, _, .cons h q => .cons (Dw.sl s h) (DwA.sl s q)
theorem DwK.sl (s : SL a xs H H') : ∀ {v : List (Key × V)} {d : List (D × D)}, DwK K A W H v d → DwK K A W H' v d
  | _, _, .nil => .nil
  | _, _, .cons h q => .cons (Dw.sl s h) (DwK.sl s q)
theorem DwF.sl (s : SL a xs H H') : ∀ {v : List (Str × V)} {d : List (Str × D)}, DwF K A W H v d → DwF K A W H' v d
  | _, _, .nil => .nil
  | _, _, .cons h q => .cons (Dw.sl s h) (DwF.sl s q)
end
theorem Own.sl {b : Addr} {d : D} (s : SL a xs H H') (h : Own K A W H b d) (n : b ≠ a) : Own K A W H' b d := by
  cases h with
  | lst h q => exact .lst (by rw [s.ne b n]; exact h) (DwA.sl s q)
  | dk h q => exact .dk (by rw [s.ne b n]; exact h) (DwK.sl s q)
  | ins w h h2 q => exact .ins w (by rw [s.ne b n]; exact h) (s.at_ h2 fun _ _ => ⟨fun z => (by cases z), fun z => (by cases z)⟩) (DwF.sl s q)
theorem OwnL.sl {b : Addr} {d : D} (s : SL a xs H H') (h : OwnL K A W H b d) : OwnL K A W H' b d := by
  by_cases n : b = a
  · subst n
    have key : ∀ {ys : List (Key × V)} {ds : List (D × D)}, IsK H b ys → DwK K A W H ys ds → OwnL K A W H' b (.dict ds) := fun {ys ds} g q => by
      rw [g.inj s.h] at q
      rcases s.h' with g' | ⟨o, g'⟩
      · exact .own (.dk g' (DwK.sl s q))
      · exact .lk g' (DwK.sl s q)
    cases h with
    | own h =>
      cases h with
      | lst h q => rcases s.h with g | ⟨o, g⟩ <;> (rw [g] at h; cases h)
      | dk h q => exact key (.inl h) q
      | ins w h h2 q => rcases s.h with g | ⟨o, g⟩ <;> (rw [g] at h; cases h)
    | lk h q => exact key (.inr ⟨_, h⟩) q
  · cases h with
    | own h => exact .own (h.sl s n)
    | lk h q => exact .lk (by rw [s.ne b n]; exact h) (DwK.sl s q)
theorem Res.lkd (s : SL a xs H H') (R : Res K A W H r) (u : ¬ A.U a) : Res K A W H' r := by
  have ne : ∀ {b}, A.U b → b ≠ a := fun {b} q z => u (by rw [← z]; exact q)
  obtain ⟨⟨l, t, g0, g1, g2⟩, ⟨ns, g3⟩, ⟨ms, g4⟩, g5⟩ := R.dr
  refine ⟨⟨⟨l, t, g0, g1, by rw [s.ne _ (ne (.inl rfl))]; exact g2⟩, ⟨ns, by rw [s.ne _ (ne (.inr (.inl rfl)))]; exact g3⟩, ⟨ms, by rw [s.ne _ (ne (.inr (.inr (.inl rfl))))]; exact g4⟩, g5⟩, R.sc.mov (fun sk o q => by rw [s.ne _ (ne (.inr (.inr (.inr (.inr ⟨sk, rfl⟩)))))]; exact q), R.sl, R.sg, R.le,
    fun n b d e1 e2 => (R.ce n b d e1 e2).sl s (ne (.inr (.inr (.inr (.inl (List.mem_of_getElem? e1)))))), R.nd, R.na, R.av, fun b w e => R.wa b w (s.none e)⟩
/-- the thing at a is o, if there is one -/
def laidO (H : Hp) (a : Addr) (o : HO) : Hp := fun b => if b = a then (H a).map fun _ => o else H b
theorem laid_ne {b : Addr} {o : HO} (n : b ≠ a) : laidO H a o b = H b := by unfold laidO; rw [if_neg n]
theorem laid_none {b : Addr} {o : HO} : laidO H a o b = none ↔ H b = none := by
  by_cases n : b = a
  · subst n
    unfold laidO
    rw [if_pos rfl]
    cases H b <;> simp
  · rw [laid_ne n]
theorem laid_at {o u : HO} (h : laidO H a o a = some u) : u = o ∧ H a ≠ none := by
  unfold laidO at h
  rw [if_pos rfl] at h
  cases e : H a with
  | none => rw [e] at h; cases h
  | some x =>
    rw [e] at h
    cases h
    exact ⟨rfl, fun z => by cases z⟩
theorem Ext.sl {o : HO} (s : SL a xs H H') (ho : H' a = some o) (x : Ext K A W0 H0 W H) : Ext K A W0 (laidO H0 a o) W H' where
  fr := fun b u nu e => by
    by_cases n : b = a
    · subst n
      rw [(laid_at e).1]
      exact ho
    · rw [laid_ne n] at e
      rw [s.ne b n]
      exact x.fr b u nu e
  al := fun b e => laid_none.mpr (x.al b (s.none e))
  tp := fun b ys h => by
    have nt : ∀ {u : HO}, H' a = some u → ∀ zs w, u ≠ .tup zs ∧ u ≠ .frz w (.tup zs) := fun {u} e zs w => by
      rcases s.h' with g | ⟨k, g⟩ <;> (rw [g] at e; cases e; exact ⟨fun z => (by cases z), fun z => (by cases z)⟩)
    have no := nt ho
    refine s.tup (x.tp b ys ?_)
    rcases h with (h | ⟨u, h⟩) | h
    · refine .inl (.inl ?_)
      show H0 b = _
      by_cases n : b = a
      · subst n; exact absurd (laid_at h).1.symm (no ys default).1
      · rw [← laid_ne (H := H0) (o := o) n]; exact h
    · refine .inl (.inr ⟨u, ?_⟩)
      show H0 b = _
      by_cases n : b = a
      · subst n; exact absurd (laid_at h).1.symm (no ys u).2
      · rw [← laid_ne (H := H0) (o := o) n]; exact h
    · exact .inr h
  wk := x.wk
  wn := fun b w => (x.wn b w).imp id laid_none.mpr
end
section
variable {K : PySem.W.Frag} {A : Amb} {W0 W W' : Addr → Prop} {H0 H H' : Hp} {O : List Nat} {σ : L2.St} {ρ : En} {r : Rs} {a : Addr} {xs : List (Key × V)}
theorem Env.sl {o : HO} (E : Env K A W0 H0 O W σ H ρ r) (s : SL a xs H H') (ho : H' a = some o) (u : ¬ A.U a) (nf : ∀ (i : Nat) (d : D), ρ[i]? = some (some d) → Fre O i → σ[i]? ≠ some (some (.ref a))) : Env K A W0 (laidO H0 a o) O W σ H' ρ r where
  len := E.len
  var := fun i d e n => by
    obtain ⟨v, h1, h2⟩ := E.var i d e n
    exact ⟨v, h1, h2.sl s⟩
  own := fun i d e n => by
    obtain ⟨b, h1, h2, h3, h4, h5⟩ := E.own i d e n
    exact ⟨b, h1, h2.sl s (fun z => nf i d e n (by rw [h1, z])), h3, h4, laid_none.mpr h5⟩
  rdo := fun i d e n => by
    obtain ⟨v, h1, h2, h3⟩ := E.rdo i d e n
    refine ⟨v, h1, ?_, fun b kvs e1 e2 tk z => h3 b kvs e1 e2 tk (laid_none.mp z)⟩
    rcases h2 with h2 | ⟨b, e, h2, h4, h5⟩
    · exact .inl (h2.sl s)
    · exact .inr ⟨b, e, h2.sl s, h4, fun z => h5 (laid_none.mp z)⟩
  rin := E.rin
  bor := E.bor
  dis := E.dis
  res := E.res.lkd s u
  bs := E.bs.sl s ho
end
/-- a mode whose results stay so when a dict that was there is unlocked -/
class LkM (M : Mode) : Prop where
  sl : ∀ {K : PySem.W.Frag} {A : Amb} {W : Addr → Prop} {H0 H H' : Hp} {v : V} {d : D} {a : Addr} {xs : List (Key × V)}, M K A H0 W H v d → SL a xs H H' → H0 a ≠ none → (∀ p ∈ A.bo, p.2 ≠ a) → M K A H0 W H' v d
  bk : ∀ {K : PySem.W.Frag} {A : Amb} {W : Addr → Prop} {H1 Hs H : Hp} {v : V} {d : D}, M K A H1 W H v d → (∀ a, H1 a = none → Hs a = none) → M K A Hs W H v d
instance : LkM mF := ⟨fun m s _ _ => Dw.sl s m, fun m _ => m⟩
instance : LkM mL := ⟨fun m s n _ => by
  rcases m with ⟨m, b, e1, h, w, u, z⟩ | ⟨m, h⟩
  · exact .inl ⟨m, b, e1, h.sl s (fun q => n (by rw [← q]; exact z)), w, u, z⟩
  · exact .inr ⟨m, Dw.sl s h⟩, fun m e => m.bk e⟩
instance {M : Mode} [LkM M] {bp : List Nat} : LkM (mP M bp) := ⟨fun {K A W H0 H H' v d a xs} m s n nb => by
  obtain ⟨x, es, rfl, hl, hm, hk⟩ := m
  refine ⟨x, es, rfl, hl, fun Hs hs => ?_, fun k i b h1 h2 => ?_⟩
  · have m1 := hm (fun b => if b = a then some (HO.lst []) else Hs b) fun b z nz => by
      have q : b ≠ a := fun q => n (by rw [← q]; exact z)
      show (if b = a then _ else _) = _
      rw [if_neg q]
      exact hs b z nz
    refine LkM.bk (LkM.sl m1 s (by show (if a = a then _ else _) ≠ _; rw [if_pos rfl]; intro z; cases z) nb) fun b z => ?_
    have z : (if b = a then some (HO.lst []) else Hs b) = none := z
    by_cases q : b = a
    · rw [if_pos q] at z; cases z
    · rw [if_neg q] at z; exact z
  · obtain ⟨e', h3, h4, h5⟩ := hk k i b h1 h2
    exact ⟨e', h3, h4.sl s (nb _ h2), h5⟩, fun {K A W H1 Hs H v d} m e => by
  obtain ⟨x, es, rfl, hl, hm, hk⟩ := m
  exact ⟨x, es, rfl, hl, fun Hs' hs => hm Hs' fun a z nz => hs a (e a z) nz, hk⟩⟩
theorem PS.or {X : Cx} {st : Stmt} {t t' : TS} (h : PS X st t) (h' : PS X st t') : PS X st (fun D σ H => t D σ H ∨ t' D σ H) := ⟨fun pins s σ H D I q => q.elim (h.run pins s σ H D I) (h'.run pins s σ H D I)⟩
theorem PE.or {X : Cx} {e : Expr} {t t' : TE} (h : PE X e t) (h' : PE X e t') : PE X e (fun σ H Q => t σ H Q ∨ t' σ H Q) := ⟨fun pins s σ H Q I q => q.elim (h.run pins s σ H Q I) (h'.run pins s σ H Q I)⟩
/-- for x in d, d a parameter that is read alone -/
def vForK (i : Nat) (t : Tgt) (body : VTS) : VTS := fun N ρ r => ∃ kvs, ρ[i]? = some (some (.dict kvs)) ∧ isTok kvs = false ∧ vLoop t body (kvs.map (·.1)) N ρ r
end Sn
namespace Sn
open PySem PySem.Spec PyProof.Rows L2
/-- {k: z for t in ..}: acc what is made so far -/
def vDcGo (t : Tgt) (c : VTT) (vk vv : VT) (ρ : En) : List D → List (D × D) → Rs → (List (D × D) → Rs → Prop) → Prop
  | [], acc, r, Q => Q acc r
  | d :: ds, acc, r, Q => vBind t d ρ fun ρ' => c ρ' r fun b r1 => if b = true then vk ρ' r1 fun k r2 => vv ρ' r2 fun z r3 => ∃ key, keyOfD k = some key ∧ vDcGo t c vk vv ρ ds (putD acc key z) r3 Q else vDcGo t c vk vv ρ ds acc r1 Q
/-- where a thing stands that is walked: a name, or an attribute of a name's object -/
def vpVar (i : Nat) : En → (D → Prop) → Prop := fun ρ Q => ∃ d, ρ[i]? = some (some d) ∧ Q d
def vpFld (i : Nat) (C : Addr) (f : Str) : En → (D → Prop) → Prop := fun ρ Q => ∃ fs, ρ[i]? = some (some (dIns C fs)) ∧ ∃ z, fs.lookup f = some z ∧ Q z
section
variable {X : Cx} {O : List Nat} {t : Tgt} {c : VTT} {v vk vv : VT}
/-- one turn after the other, of a dict comprehension -/
theorem dc_itV {J : It} {n : Nat} {G : Hp → Prop} {Y : Nat → Hp → V → Hp → Prop} (w : Walk J n G Y) {g : TG} {tt : TT} {tk tv : TE} {vs : List Nat} {σ : L2.St} {H1 : Hp} {p : Addr} {Qd : Hp → Prop} (Pv : Nat → Hp → Prop) (h0 : Pv 0 (upd H1 p (.dK []))) (hG : ∀ i H, i ≤ n → Pv i H → G H)
    (hs : ∀ i x H H', i < n → Pv i H → Y i H x H' → g x (L2.wipe σ vs) H' fun σ2 H2 => L2.wipe σ2 vs = L2.wipe σ vs ∧ tt σ2 H2 fun b H3 =>
      if b = true then tk σ2 H3 fun y H4 => tv σ2 H4 fun z H5 => ∃ kvs k, y = L2.kV k ∧ H5 p = some (.dK kvs) ∧ kvs.length < sizeLine ∧ Pv (i + 1) (upd H5 p (.dK (putK kvs k z))) else Pv (i + 1) H3) (hd : ∀ H, Pv n H → Qd H) :
    ∃ W : Nat → Nat → Hp → Prop, (∃ m, W 0 m (upd H1 p (.dK []))) ∧ ∀ i m H, W i m H →
      (J.stop i H ∧ Qd H) ∨ (J.go i H ∧ ∃ Nx : Hp → Prop, (∀ H', Nx H' → ∃ m', m' < m ∧ W (i + 1) m' H') ∧ ∀ x H', J.yld i H x H' → g x (L2.wipe σ vs) H' fun σ2 H2 => L2.wipe σ2 vs = L2.wipe σ vs ∧ tt σ2 H2 fun b H3 =>
        if b = true then tk σ2 H3 fun y H4 => tv σ2 H4 fun z H5 => ∃ kvs k, y = L2.kV k ∧ H5 p = some (.dK kvs) ∧ kvs.length < sizeLine ∧ Nx (upd H5 p (.dK (putK kvs k z))) else Nx H3) := by
  refine ⟨fun i m H => m = n - i ∧ i ≤ n ∧ Pv i H, ⟨n, by simp, Nat.zero_le _, h0⟩, ?_⟩
  rintro i m H ⟨rfl, hi, q⟩
  have gg := hG i H hi q
  by_cases hlt : i < n
  · exact .inr ⟨w.goes i H hlt gg, Pv (i + 1), fun H' p' => ⟨n - (i + 1), by omega, rfl, hlt, p'⟩, fun x H' y => hs i x H H' hlt q (w.yields i H x H' hlt gg y)⟩
  · have e : i = n := by omega
    subst e
    exact .inl ⟨w.stops H gg, hd H q⟩
theorem dcx_core {vs : List Nat} {A : Amb} {W0 : Addr → Prop} {H0 : Hp} {W1 : Addr → Prop} {σ : L2.St} {H1 : Hp} {ρ : En} {r1 : Rs} {J : It} {ds : List D} {Q0 : D → Rs → Prop} {Q : VK} (hO : t.ok O) (hv : t.In vs) (hW : ∀ v ∈ vs, Rep O v) (E1 : Env X.K A W0 H0 O W1 σ H1 ρ r1) (wk : WalksX X.K A W1 H1 J ds) (hlen : ds.length ≤ sizeLine)
    (q1 : vDcGo t c vk vv (wipeE ρ vs) ds [] r1 fun zs r2 => Q0 (.dict zs) r2)
    (k : ∀ zs r' p H' W', Q0 (.dict zs) r' → Ext X.K A W1 H1 W' H' → Res X.K A W' H' r' → Own X.K A W' H' p (.dict zs) → ¬ W' p → ¬ A.U p → H1 p = none → Q (.ref p) H') :
    tDc (fun _ _ R => R J H1) (gOf X.K t) (liftT X.K O c) (liftM X.K O mF vk) (liftM X.K O mF vv) vs σ H1 Q := by
  intro p hp
  obtain ⟨G, Y, w, hG, hY⟩ := wk
  have hU : ¬ A.U p := E1.res.uNew hp
  refine dc_itV w (fun i H' => ∃ r' W' acc zs, Ext X.K A W1 H1 W' H' ∧ Res X.K A W' H' r' ∧ H' p = some (.dK acc) ∧ acc.length ≤ i ∧ DwK X.K A W' H' acc zs ∧ (acc.map (·.1)).Nodup ∧ ¬ W' p ∧ vDcGo t c vk vv (wipeE ρ vs) (ds.drop i) zs r' fun zs' r2 => Q0 (.dict zs') r2) ?_ ?_ ?_ ?_
  · exact ⟨r1, W1, [], [], Ext.new hp, E1.res.same (same_new hp), upd_same, Nat.le_refl _, .nil, List.nodup_nil, fun z => E1.res.wa p z hp, by rw [List.drop_zero]; exact q1⟩
  · rintro i H' _ ⟨r', W', acc, zs, x', R', _⟩
    exact hG W' H' x'
  · rintro i y H' H2 hi ⟨r', W', acc, zs, x', R', hacc, hl, hz, nd, nW, q2⟩ hy
    obtain ⟨sm, hd⟩ := hY i H' W' y H2 ds[i] (List.getElem?_eq_getElem hi) x' hy
    rw [List.drop_eq_getElem_cons hi] at q2
    have E2 := ((E1.ext x' R').same sm).wipe vs hW
    refine bind_goW E2 hO hv hd q2 fun ρ3 σ3 q3 e3 E3 => ⟨by rw [e3, wipe_wipe], ?_⟩
    refine ⟨A, W0, H0, W', ρ3, r', _, E3, q3, fun b r4 q4 H4 W4 x4 E4 => ?_⟩
    have x02 : Ext X.K A W1 H1 W' H2 := x'.trans (Ext.same sm)
    have h2 : H2 p = some (.dK acc) := sm _ _ hacc
    have h4 : H4 p = some (.dK acc) := x4.fr _ _ hU h2
    have n4 : ¬ W4 p := fun z => (x4.wn p z).elim nW fun z => by rw [z] at h2; cases h2
    cases b with
    | true =>
      refine iteT ⟨A, W0, H0, W4, ρ3, r4, _, E4, q4, fun kk r5 q5 u H5 W5 x5 E5 m5 => ?_⟩
      have h5 : H5 p = some (.dK acc) := x5.fr _ _ hU h4
      have n5 : ¬ W5 p := fun z => (x5.wn p z).elim n4 fun z => by rw [z] at h4; cases h4
      refine ⟨A, W0, H0, W5, ρ3, r5, _, E5, q5, fun z r6 q6 y6 H6 W6 x6 E6 m6 => ?_⟩
      obtain ⟨key, hk, q6⟩ := q6
      have h6 : H6 p = some (.dK acc) := x6.fr _ _ hU h5
      have n6 : ¬ W6 p := fun z => (x6.wn p z).elim n5 fun z => by rw [z] at h5; cases h5
      have eu : u = L2.kV key := (show mB X.K A H5 W5 H5 u kk from .inl m5).kV hk
      have la : (putK acc key y6).length ≤ acc.length + 1 := length_putK acc key y6
      refine ⟨acc, key, eu, h6, by omega, r6, W6, putK acc key y6, putD zs key z, (((x02.trans x4).trans x5).trans x6).updNew hp h6 dkNT, E6.res.updN n6 hU h6 dkNT, upd_same, by omega, ?_, put_nodup nd, n6, q6⟩
      have hz6 : DwK X.K A W6 H6 acc zs := (((hz.ext (Ext.same sm) R'.av).ext x4 E3.res.av).ext x5 E4.res.av).ext x6 E5.res.av
      exact (DwK.put m6 hz6 nd).mov (fun _ e => e) (fun b u w e => by rw [upd_ne (fun z => n6 (by rw [← z]; exact w))]; exact e) fun b xs e => sqT_put h6 dkNT e
    | false =>
      refine iteF ⟨r4, W4, acc, zs, x02.trans x4, E4.res, h4, by omega, ((hz.ext (Ext.same sm) R'.av).ext x4 E3.res.av), nd, n4, q4⟩
  · rintro H' ⟨r', W', acc, zs, x', R', hacc, hl, hz, nd, nW, q2⟩
    rw [List.drop_length] at q2
    exact k _ r' p H' W' q2 x' R' (.dk hacc hz) nW hU hp
end
/-- a comprehension over a dict's keys -/
def vLcD (vs : List Nat) (vp : En → (D → Prop) → Prop) (t : Tgt) (c : VTT) (v : VT) : VT := fun ρ r Q => vp ρ fun d => ∃ kvs, d = .dict kvs ∧ isTok kvs = false ∧ kvs.length ≤ sizeLine ∧ vLcGo t c v (wipeE ρ vs) (kvs.map (·.1)) r fun zs r2 => Q (.list zs) r2
def vDcD (vs : List Nat) (vp : En → (D → Prop) → Prop) (t : Tgt) (c : VTT) (vk vv : VT) : VT := fun ρ r Q => vp ρ fun d => ∃ kvs, d = .dict kvs ∧ isTok kvs = false ∧ kvs.length ≤ sizeLine ∧ vDcGo t c vk vv (wipeE ρ vs) (kvs.map (·.1)) [] r fun zs r2 => Q (.dict zs) r2
def vDc (vs : List Nat) (vi : VTI) (t : Tgt) (c : VTT) (vk vv : VT) : VT := fun ρ r Q => vi ρ r fun ds r1 => ds.length ≤ sizeLine ∧ vDcGo t c vk vv (wipeE ρ vs) ds [] r1 fun zs r2 => Q (.dict zs) r2
section
variable {X : Cx} {O : List Nat} {elt kx vx tg iter : Expr} {ifs : List Expr} {scope : Scope} {own : List (Str × Nat)} {pos : Pos} {vi : VTI} {t : Tgt} {c : VTT} {v vk vv : VT} {te : TE} {vp : En → (D → Prop) → Prop}
/-- a dict comprehension over a list, a tuple or a text -/
theorem vl_dc (hc : X.calm = true) (hN : X.N.Nodup) (hi : VIX X O tg iter vi) (ok : BlkOk X.N X.env.scope scope own)
    (hg : ∀ (s : Shared) (H : Hp) (C : Addr) (cl : List (Str × Addr)) (fp : List Addr), PG (X.blk s H scope (compEnvC scope cl C X.env) fp) tg (gOf X.K t)) (ht : ∀ (s : Shared) (H : Hp) (C : Addr) (cl : List (Str × Addr)) (fp : List Addr), PTs (X.blk s H scope (compEnvC scope cl C X.env) fp) ifs (liftT X.K O c))
    (hk : ∀ (s : Shared) (H : Hp) (C : Addr) (cl : List (Str × Addr)) (fp : List Addr), VE (X.blk s H scope (compEnvC scope cl C X.env) fp) O kx vk)
    (he : ∀ (s : Shared) (H : Hp) (C : Addr) (cl : List (Str × Addr)) (fp : List Addr), VE (X.blk s H scope (compEnvC scope cl C X.env) fp) O vx vv) (hO : t.ok O := by decide) (hv : t.In (own.map (·.2)) := by decide) (hW : ∀ v ∈ own.map (·.2), Rep O v := by decide) (hs : ∀ x, foldedSetIterable iter X.env x = pure x := by intro _; rfl) :
    VL X O (.DictComp kx vx [⟨tg, iter, ifs, 0⟩] scope pos) (vDc (own.map (·.2)) vi t c vk vv) := PE.imp (pe_dc (tk := liftM X.K O mF vk) (tv := liftM X.K O mF vv) hc hN hi ok hg ht hk he hs) fun σ H Q q => by
  obtain ⟨A, W0, H0, W, ρ, r, Q0, E, q, k⟩ := q
  refine ⟨A, W0, H0, W, ρ, r, _, E, q, fun ds r1 q1 J H1 W1 x1 E1 wk => ?_⟩
  refine dcx_core (σ := σ) hO hv hW E1 wk q1.1 q1.2 fun zs r' p H' W' q0 x R' o nw nu hp => ?_
  exact k _ r' q0 _ H' W' (x1.trans x) (E1.ext x R') (.inl ⟨rfl, p, rfl, o, nw, nu, x1.al p hp⟩)
end
end Sn
namespace Sn
open PySem PySem.Spec PyProof.Rows L2
def vRev (v : VT) : VT := fun ρ r Q => v ρ r fun d r1 => ∃ ds, d = .list ds ∧ Q (.list ds.reverse) r1
def vStar (v : VT) (vs : VTA) : VTA := fun ρ r Q => v ρ r fun d r1 => ∃ es, (d = .tuple es ∨ d = .list es) ∧ vs ρ r1 fun ds r2 => Q (es ++ ds) r2
section
variable {X : Cx} {O : List Nat} {e a : Expr} {es : List Expr} {v1 : VT} {vs : VTA} {pos p p1 p2 p3 : Pos} {k : Nat}
theorem DwA.rev {K : PySem.W.Frag} {A : Amb} {W : Addr → Prop} {H : Hp} : ∀ {xs : List V} {ds : List D}, DwA K A W H xs ds → DwA K A W H xs.reverse ds.reverse
  | _, _, .nil => .nil
  | _, _, .cons h a => by
    rw [List.reverse_cons, List.reverse_cons]
    exact (DwA.rev a).app (.cons h .nil)
end
end Sn
namespace Sn
open PySem PySem.Spec PyProof.Rows L2
section
variable {prog : Program} {w : World} {κ : Type} [DecidableEq κ] {knd : KeyKind prog w κ} {A : Around} {E : Value → Shared → Prop} {s : Shared}
theorem Pairs.drop {es : List DictEntry} {kvs : List (κ × Value)} (h : Pairs knd es kvs) : ∀ i, Pairs knd (es.drop i) (kvs.drop i)
  | 0 => h
  | i + 1 => by
    cases h with
    | nil => exact .nil
    | cons _ _ t => exact Pairs.drop t i
end
/-- {**d, k: v} -/
def vMerge1 (v vk vv : VT) : VT := fun ρ r Q => v ρ r fun d r1 => ∃ kvs, d = .dict kvs ∧ isTok kvs = false ∧ (kvs.map (·.1)).Nodup ∧ kvs.length + 15 ≤ sizeLine ∧ vk ρ r1 fun kk r2 => vv ρ r2 fun z r3 => ∃ key, keyOfD kk = some key ∧ Q (.dict (putD kvs key z)) r3
end Sn
namespace Sn
open PySem PySem.Spec PyProof.Rows L2 PySem.Froz
/-- the set's payload holds the texts l, each once; its table rises and can be walked -/
structure SxOk (P : Program) (w : World) (D : SD) (l : List Str) : Prop where
  tx : TxOk P w D l
  ris : L2.Ris D.2.2.place.toList
  led : w.params.followText "set-order" = true ∨ D.2.2.led = true
  nd : l.Nodup
def GotX (ks : List Str) (i : Nat) (l : List Str) : Prop := (∀ x, x ∈ l ↔ x ∈ ks.take i) ∧ l.length ≤ i
section
variable {P : Program} {w : World} {A : Around} {E : Value → Shared → Prop} {s : Shared}
theorem SxOk.nil {b : Bool} (hb : w.params.followText "set-order" = true ∨ b = true) : SxOk P w (#[], 0, .fresh 0 0 b) [] :=
  ⟨TxOk.nil rfl, List.Pairwise.nil, hb, List.nodup_nil⟩
end
theorem GotX.same {ks l : List Str} {i : Nat} {x : Str} (g : GotX ks i l) (h : ks[i]? = some x) (hm : x ∈ l) : GotX ks (i + 1) l := by
  refine ⟨fun y => ?_, Nat.le_succ_of_le g.2⟩
  rw [take_next h, List.mem_append, List.mem_singleton, ← g.1 y]
  constructor
  · exact .inl
  · rintro (z | rfl)
    · exact z
    · exact hm
theorem GotX.more {ks l : List Str} {i : Nat} {x : Str} (g : GotX ks i l) (h : ks[i]? = some x) : GotX ks (i + 1) (x :: l) := by
  refine ⟨fun y => ?_, by rw [List.length_cons]; exact Nat.succ_le_succ g.2⟩
  rw [take_next h, List.mem_append, List.mem_singleton, ← g.1 y, List.mem_cons]
  exact Or.comm
end Sn
namespace Sn
open PySem PySem.Spec PyProof.Rows L2 PySem.Froz
section
variable {P : Program} {w : World} {A : Around} {E : Value → Shared → Prop} {s : Shared}
theorem StrsAre.mem : ∀ {us : List Value} {xs : List Str}, StrsAre us xs → ∀ x, x ∈ xs → ∃ t, Value.str x t ∈ us
  | _, _, .nil, x, h => by cases h
  | _, _, .cons n t hr, x, h => by
    rcases List.mem_cons.mp h with e | h
    · exact ⟨t, by rw [e]; exact List.mem_cons_self ..⟩
    · obtain ⟨t', e⟩ := StrsAre.mem hr x h
      exact ⟨t', List.mem_cons_of_mem _ e⟩
end
def vSortSet (v : VT) : VT := fun ρ r Q => v ρ r fun d r1 => ∃ zs : List Str, d = .list (zs.map .str) ∧ zs.length < 64 ∧ ∀ ys : List Str, ys.Nodup → (∀ x, x ∈ ys ↔ x ∈ zs) → sortedS ys = true → Q (.list (ys.map .str)) r1
end Sn
namespace Sn
open PySem PySem.Spec PyProof.Rows L2
/-- p is no owned thing of the names -/
def NoP (O : List Nat) (p : Addr) (σ : L2.St) (ρ : En) : Prop := ∀ (i : Nat) (d : D), ρ[i]? = some (some d) → Fre O i → σ[i]? ≠ some (some (.ref p))
theorem NoP.wipe {O : List Nat} {p : Addr} {σ : L2.St} {ρ : En} (h : NoP O p σ ρ) : ∀ vs, NoP O p (L2.wipe σ vs) (wipeE ρ vs)
  | [] => h
  | v :: vs => fun i d h1 h2 h3 => by
    unfold wipeE at h1
    unfold L2.wipe at h3
    by_cases q : v = i
    · subst q
      rcases Nat.lt_or_ge v (wipeE ρ vs).length with l | l
      · rw [List.getElem?_set_self l] at h1; cases h1
      · rw [List.getElem?_eq_none (by rw [List.length_set]; exact l)] at h1; cases h1
    · rw [List.getElem?_set_ne q] at h1 h3
      exact NoP.wipe h vs i d h1 h2 h3
theorem NoP.set {O : List Nat} {p : Addr} {σ : L2.St} {ρ : En} (h : NoP O p σ ρ) {j : Nat} (n : j ∉ O) (x : Option V) (y : Option D) : NoP O p (σ.set j x) (ρ.set j y) := fun i d h1 h2 h3 => by
  have q : j ≠ i := fun q => n (by rw [q]; exact h2.1)
  rw [List.getElem?_set_ne q] at h1 h3
  exact h i d h1 h2 h3
section
variable {K : PySem.W.Frag} {A : Amb} {W0 W W' : Addr → Prop} {H0 H H' : Hp} {O : List Nat} {σ : L2.St} {ρ : En} {r r' : Rs} {v : V} {d : D} {p : Addr} {o o' : HO}
theorem Env.updN (E : Env K A W0 H0 O W σ H ρ r) (N : NoP O p σ ρ) (hw : ¬ W p) (hu : ¬ A.U p) (h : H p = some o) (ho : ∀ ys u, o ≠ .tup ys ∧ o ≠ .frz u (.tup ys)) (h0 : H0 p = none) : Env K A W0 H0 O W σ (upd H p o') ρ r where
  len := E.len
  var := fun i d e n => by
    obtain ⟨v, h1, h2⟩ := E.var i d e n
    exact ⟨v, h1, h2.mov (fun _ e => e) (fun b u w e => by rw [upd_ne (fun z => hw (by rw [← z]; exact w))]; exact e) fun b xs e => sqT_put h ho e⟩
  own := fun i d e n => by
    obtain ⟨a, h1, h2, h3, h4, h5⟩ := E.own i d e n
    exact ⟨a, h1, h2.updN hw h ho (fun z => N i d e n (by rw [h1, z])), h3, h4, h5⟩
  rdo := fun i d e n => by
    obtain ⟨v, h1, h2, hk⟩ := E.rdo i d e n
    refine ⟨v, h1, ?_, hk⟩
    rcases h2 with h2 | ⟨a, e, h2, h3, h4⟩
    · exact .inl (h2.mov (fun _ e => e) (fun b u w e => by rw [upd_ne (fun z => hw (by rw [← z]; exact w))]; exact e) fun b xs e => sqT_put h ho e)
    · exact .inr ⟨a, e, h2.mov (fun _ e => e) (fun b u w e => by rw [upd_ne (fun z => hw (by rw [← z]; exact w))]; exact e) (fun b xs e => sqT_put h ho e) fun u q => by
        rw [upd_ne (fun z => h4 (by rw [z]; exact h0))]
        exact q, h3, h4⟩
  rin := E.rin
  bor := E.bor
  dis := E.dis
  res := E.res.updN hw hu h ho
  bs := E.bs.updNew h0 h ho
end
def vLc2Go (t : Tgt) (c : VTT) (vi1 : VTI) (vs1 : List Nat) (t1 : Tgt) (c1 : VTT) (v : VT) (ρ : En) : List D → Rs → (List D → Rs → Prop) → Prop
  | [], r, Q => Q [] r
  | d :: ds, r, Q => vBind t d ρ fun ρ' => c ρ' r fun b r1 => if b = true then vi1 ρ' r1 fun es r2 => es.length ≤ 1000 ∧ vLcGo t1 c1 v (wipeE ρ' vs1) es r2 fun zs r3 => vLc2Go t c vi1 vs1 t1 c1 v ρ ds r3 fun ws r4 => Q (zs ++ ws) r4
    else vLc2Go t c vi1 vs1 t1 c1 v ρ ds r1 Q
/-- [e for t in i if c for t1 in i1 if c1] -/
def vLc2 (vs : List Nat) (vi : VTI) (t : Tgt) (c : VTT) (vi1 : VTI) (vs1 : List Nat) (t1 : Tgt) (c1 : VTT) (v : VT) : VT := fun ρ r Q => vi ρ r fun ds r1 => ds.length ≤ 1000 ∧ vLc2Go t c vi1 vs1 t1 c1 v (wipeE ρ vs) ds r1 fun zs r2 => Q (.list zs) r2
end Sn
namespace Sn
open PySem PySem.Spec PyProof.Rows L2
section
variable {ρ : En} {r : Rs} {Q : D → Rs → Prop} {QA : List D → Rs → Prop} {QM : D → En → Rs → Prop} {QB : Bool → En → Rs → Prop} {N : VN} {s t : VTS} {v vk vv v1 v2 v3 : VT} {vs : VTA} {as : List ArgV} {i : Nat} {C : Addr} {f m : Str} {vf : VF} {vx : VFX} {d : D} {R : D → Prop} {vi vi1 : VTI} {tg t1 : Tgt} {c c1 : VTT} {ws ws1 : List Nat}
instance : St (vArgs [] ρ r QA) (QA [] r) := ⟨id⟩
instance : St (vArgs (.f v :: as) ρ r QA) (v ρ r fun d r1 => vArgs as ρ r1 fun ds r2 => QA (d :: ds) r2) := ⟨id⟩
instance : St (vArgs (.l v :: as) ρ r QA) (v ρ r fun d r1 => vArgs as ρ r1 fun ds r2 => QA (d :: ds) r2) := ⟨id⟩
instance : St (vArgs (.m i :: as) ρ r QA) (∃ d, ρ[i]? = some (some d) ∧ vArgs as ρ r fun ds r2 => QA (d :: ds) r2) := ⟨id⟩
instance : St (vCallA vf as ρ r Q) (vArgs as ρ r fun ds r1 => vf ds r1 Q) := ⟨id⟩
instance : St (vMethA C m vf v1 as ρ r Q) (v1 ρ r fun d r1 => ∃ fs, d = dIns C fs ∧ fs.lookup m = none ∧ vArgs as ρ r1 fun ds r2 => vf (d :: ds) r2 Q) := ⟨id⟩
instance : St (vCallX vx as ρ r QM) (vArgs as ρ r fun ds r1 => vx ds r1 fun d es r2 => QM d (setAll ρ (mSlots as) es) r2) := ⟨id⟩
instance : St (vMethX C m vx i as ρ r QM) (∃ fs, ρ[i]? = some (some (dIns C fs)) ∧ fs.lookup m = none ∧ vArgs as ρ r fun ds r1 => vx (dIns C fs :: ds) r1 fun d es r2 => QM d (setAll ρ (i :: mSlots as) es) r2) := ⟨id⟩
instance : St (vPure v ρ r QM) (v ρ r fun d r1 => QM d ρ r1) := ⟨id⟩
instance {vm : VTM} : St (vDropM vm N ρ r) (vm ρ r fun _ ρ1 r1 => N.nx ρ1 r1) := ⟨id⟩
instance {vm : VTM} : St (vSetM i vm N ρ r) (vm ρ r fun d ρ1 r1 => N.nx (ρ1.set i (some d)) r1) := ⟨id⟩
instance {cm : VTMT} : St (vIfM cm s t N ρ r) (cm ρ r fun b ρ1 r1 => if b = true then s N ρ1 r1 else t N ρ1 r1) := ⟨id⟩
instance {vm : VTM} : St (vBM vm ρ r QB) (vm ρ r fun x ρ1 r1 => ∃ c, x = .bool c ∧ QB c ρ1 r1) := ⟨id⟩
instance {vm : VTMT} : St (vNotM vm ρ r QB) (vm ρ r fun c ρ1 r1 => QB (!c) ρ1 r1) := ⟨id⟩
instance : St (vMake C vx as ρ r Q) (vArgs as ρ r fun ds r1 => vx (dIns C [] :: ds) r1 fun d es r2 => d = .none ∧ ∃ s, es = [s] ∧ isMut s = true ∧ Q s r2) := ⟨id⟩
instance : St (vSetF i C f v N ρ r) (v ρ r fun d r1 => ∃ fs, ρ[i]? = some (some (dIns C fs)) ∧ fs.length < 1000 ∧ N.nx (ρ.set i (some (dIns C (putFd f d fs)))) r1) := ⟨id⟩
instance : St (vItemX C vx i vk vv N ρ r) (vv ρ r fun d r1 => ∃ fs, ρ[i]? = some (some (dIns C fs)) ∧ vk ρ r1 fun kk r2 => vx [dIns C fs, kk, d] r2 fun _ es r3 => N.nx (setAll ρ [i] es) r3) := ⟨id⟩
instance : St (vDput i vk vv N ρ r) (vv ρ r fun d r1 => ∃ kvs, ρ[i]? = some (some (.dict kvs)) ∧ isTok kvs = false ∧ (kvs.map (·.1)).Nodup ∧ vk ρ r1 fun kk r2 => ∃ key, keyOfD kk = some key ∧ kvs.length < sizeLine ∧ N.nx (ρ.set i (some (.dict (putD kvs key d)))) r2) := ⟨id⟩
instance : St (vForK i tg s N ρ r) (∃ kvs, ρ[i]? = some (some (.dict kvs)) ∧ isTok kvs = false ∧ vLoop tg s (kvs.map (·.1)) N ρ r) := ⟨id⟩
instance {vp : En → (D → Prop) → Prop} : St (vLcD ws vp tg c v ρ r Q) (vp ρ fun d => ∃ kvs, d = .dict kvs ∧ isTok kvs = false ∧ kvs.length ≤ sizeLine ∧ vLcGo tg c v (wipeE ρ ws) (kvs.map (·.1)) r fun zs r2 => Q (.list zs) r2) := ⟨id⟩
instance {vp : En → (D → Prop) → Prop} : St (vDcD ws vp tg c vk vv ρ r Q) (vp ρ fun d => ∃ kvs, d = .dict kvs ∧ isTok kvs = false ∧ kvs.length ≤ sizeLine ∧ vDcGo tg c vk vv (wipeE ρ ws) (kvs.map (·.1)) [] r fun zs r2 => Q (.dict zs) r2) := ⟨id⟩
instance : St (vDc ws vi tg c vk vv ρ r Q) (vi ρ r fun ds r1 => ds.length ≤ sizeLine ∧ vDcGo tg c vk vv (wipeE ρ ws) ds [] r1 fun zs r2 => Q (.dict zs) r2) := ⟨id⟩
instance : St (vpVar i ρ R) (∃ d, ρ[i]? = some (some d) ∧ R d) := ⟨id⟩
instance : St (vpFld i C f ρ R) (∃ fs, ρ[i]? = some (some (dIns C fs)) ∧ ∃ z, fs.lookup f = some z ∧ R z) := ⟨id⟩
instance : St (vRev v ρ r Q) (v ρ r fun d r1 => ∃ ds, d = .list ds ∧ Q (.list ds.reverse) r1) := ⟨id⟩
instance : St (vStar v vs ρ r QA) (v ρ r fun d r1 => ∃ es, (d = .tuple es ∨ d = .list es) ∧ vs ρ r1 fun ds r2 => QA (es ++ ds) r2) := ⟨id⟩
instance : St (vMerge1 v vk vv ρ r Q) (v ρ r fun d r1 => ∃ kvs, d = .dict kvs ∧ isTok kvs = false ∧ (kvs.map (·.1)).Nodup ∧ kvs.length + 15 ≤ sizeLine ∧ vk ρ r1 fun kk r2 => vv ρ r2 fun z r3 => ∃ key, keyOfD kk = some key ∧ Q (.dict (putD kvs key z)) r3) := ⟨id⟩
instance : St (vSortSet v ρ r Q) (v ρ r fun d r1 => ∃ zs : List Str, d = .list (zs.map .str) ∧ zs.length < 64 ∧ ∀ ys : List Str, ys.Nodup → (∀ x, x ∈ ys ↔ x ∈ zs) → sortedS ys = true → Q (.list (ys.map .str)) r1) := ⟨id⟩
instance : St (vLc2 ws vi tg c vi1 ws1 t1 c1 v ρ r Q) (vi ρ r fun ds r1 => ds.length ≤ 1000 ∧ vLc2Go tg c vi1 ws1 t1 c1 v (wipeE ρ ws) ds r1 fun zs r2 => Q (.list zs) r2) := ⟨id⟩
instance {bp : List Nat} : St (vRetP bp v N ρ r) (v ρ r fun d r1 => ∃ es, getE ρ bp = some es ∧ N.rt (dPairX d es) r1) := ⟨id⟩
instance {bp : List Nat} {QX : D → List D → Rs → Prop} : St ((endX bp QX).nx ρ r) (∃ es, getE ρ bp = some es ∧ QX .none es r) := ⟨id⟩
instance {bp : List Nat} {QX : D → List D → Rs → Prop} {es : List D} : St ((endX bp QX).rt (dPairX d es) r) (QX d es r) := ⟨fun q => ⟨_, _, rfl, q⟩⟩
instance {P : Prop} : St (True ∧ P) P := ⟨fun q => ⟨trivial, q⟩⟩
instance {P : Prop} : St (d = d ∧ P) P := ⟨fun q => ⟨rfl, q⟩⟩
end
end Sn
namespace Sn
open PySem PySem.Spec PyProof.Rows L2
section
variable {t : Tgt} {c : VTT} {vk vv : VT} {ρ : En} {r : Rs} {Q : List (D × D) → Rs → Prop}
theorem i_dcGo (f : D → Key) (g : D → D) : ∀ {ds : List D} {acc : List (D × D)}, (∀ d ∈ ds, ∀ (R : Key → D → Rs → Prop) (E : Rs → Prop), R (f d) (g d) r → vBind t d ρ fun ρ' => c ρ' r fun b r1 => if b = true then vk ρ' r1 fun k r2 => vv ρ' r2 fun z r3 => ∃ key, keyOfD k = some key ∧ R key z r3 else E r1) →
    Q (ds.foldl (fun a d => putD a (f d) (g d)) acc) r → vDcGo t c vk vv ρ ds acc r Q
  | [], acc, _, q => q
  | d :: ds, acc, h, q => by
    unfold vDcGo
    exact h d (List.mem_cons_self ..) (fun key z r3 => vDcGo t c vk vv ρ ds (putD acc key z) r3 Q) (fun r1 => vDcGo t c vk vv ρ ds acc r1 Q) (i_dcGo f g (fun e he => h e (List.mem_cons_of_mem _ he)) q)
end
/-- the dict that is stored into, texts to values -/
def putS {α : Type} : List (Str × α) → Str → α → List (Str × α)
  | [], n, t => [(n, t)]
  | (m, u) :: r, n, t => if m = n then (m, t) :: r else (m, u) :: putS r n t
theorem putD_str {α : Type} (h : α → D) (n : Str) (t : α) : ∀ kvs : List (Str × α), putD (kvs.map fun p => (PyData.str p.1, h p.2)) (.inr n) (h t) = (putS kvs n t).map fun p => (PyData.str p.1, h p.2)
  | [] => rfl
  | (m, u) :: r => by
    unfold putS
    rw [List.map_cons]
    unfold putD
    have e : keyOfD (PyData.str m) = some (.inr m) := rfl
    rw [e]
    by_cases q : m = n
    · subst q
      simp
    · rw [if_neg (by simpa using q), if_neg q, List.map_cons, putD_str h n t r]
instance {ρ : En} {r : Rs} {QB : Bool → Rs → Prop} : St (vYes ρ r QB) (QB true r) := ⟨id⟩
end Sn
namespace Sn
open PySem PySem.Spec PyProof.Rows L2
def vCallD (vf : VF) (dd : List D) (va : VTA) : VT := fun ρ r Q => va ρ r fun ds r1 => vf (ds ++ dd) r1 Q
section
variable {vf : VF} {dd : List D} {vs : VTA} {ρ : En} {r : Rs} {Q : D → Rs → Prop}
instance : St (vCallD vf dd vs ρ r Q) (vs ρ r fun ds r1 => vf (ds ++ dd) r1 Q) := ⟨id⟩
end
end Sn
namespace Sn
open PySem PySem.Spec PyProof.Rows L2
section
variable {K : PySem.W.Frag} {A B : Amb} {W W' : Addr → Prop} {H H' : Hp} {r : Rs} {a : Addr} {n : Nat}
mutual
/-- .. with more cells -/
theorem Dw.grow (h1 : B.d = A.d) (h2 : B.s = A.s) (h3 : ∀ (n : Nat) (b : Addr), A.as[n]? = some b → B.as[n]? = some b) : ∀ {v : V} {d : D}, Dw K A W H v d → Dw K B W H v d
  | _, _, .non => .non
  | _, _, .bl b => .bl b
  | _, _, .int i => .int i
  | _, _, .str z => .str z
  | _, _, .tup h a => .tup h (DwA.grow h1 h2 h3 a)
  | _, _, .lst w h a => .lst w h (DwA.grow h1 h2 h3 a)
  | _, _, .dk w h a => .dk w h (DwK.grow h1 h2 h3 a)
  | _, _, .st => by rw [← h1]; exact .st
  | _, _, .scr => by rw [← h2]; exact .scr
  | _, _, .cell h => .cell (h3 _ _ h)
  | _, _, .obj a => .obj a
  | _, _, .ins w w2 h h2' a => .ins w w2 h h2' (DwF.grow h1 h2 h3 a)
theorem DwA.grow (h1 : B.d = A.d) (h2 : B.s = A.s) (h3 : ∀ (n : Nat) (b : Addr), A.as[n]? = some b → B.as[n]? = some b) : ∀ {v : List V} {d : List D}, DwA K A W H v d → DwA K B W H v d
  | _, _, .nil => .nil
  | _, _, .cons h a => .cons (h.grow h1 h2 h3) (DwA.grow h1 h2 h3 a)
theorem DwK.grow (h1 : B.d = A.d) (h2 : B.s = A.s) (h3 : ∀ (n : Nat) (b : Addr), A.as[n]? = some b → B.as[n]? = some b) : ∀ {v : List (Key × V)} {d : List (D × D)}, DwK K A W H v d → DwK K B W H v d
  | _, _, .nil => .nil
  | _, _, .cons h a => .cons (h.grow h1 h2 h3) (DwK.grow h1 h2 h3 a)
theorem DwF.grow (h1 : B.d = A.d) (h2 : B.s = A.s) (h3 : ∀ (n : Nat) (b : Addr), A.as[n]? = some b → B.as[n]? = some b) : ∀ {v : List (Str × V)} {d : List (Str × D)}, DwF K A W H v d → DwF K B W H v d
  | _, _, .nil => .nil
  | _, _, .cons h a => .cons (h.grow h1 h2 h3) (DwF.grow h1 h2 h3 a)
end
theorem Own.grow {d : D} (h1 : B.d = A.d) (h2 : B.s = A.s) (h3 : ∀ (n : Nat) (b : Addr), A.as[n]? = some b → B.as[n]? = some b) (h : Own K A W H a d) : Own K B W H a d := by
  cases h with
  | lst h q => exact .lst h (q.grow h1 h2 h3)
  | dk h q => exact .dk h (q.grow h1 h2 h3)
  | ins w h h2' q => exact .ins w h h2' (q.grow h1 h2 h3)
theorem OwnL.grow {d : D} (h1 : B.d = A.d) (h2 : B.s = A.s) (h3 : ∀ (n : Nat) (b : Addr), A.as[n]? = some b → B.as[n]? = some b) (h : OwnL K A W H a d) : OwnL K B W H a d := by
  cases h with
  | own h => exact .own (h.grow h1 h2 h3)
  | lk h q => exact .lk h (q.grow h1 h2 h3)
mutual
/-- data without a sign for another thing -/
def tf : D → Bool
  | .dict kvs => !isTok kvs && tfK kvs
  | .list ds => tfA ds
  | .tuple ds => tfA ds
  | _ => true
def tfA : List D → Bool
  | [] => true
  | d :: ds => tf d && tfA ds
def tfK : List (D × D) → Bool
  | [] => true
  | p :: ds => tf p.2 && tfK ds
end
mutual
theorem Dw.tfree (h : ∀ (n : Nat) (b : Addr), A.as[n]? = some b → B.as[n]? = some b ∨ True) : ∀ {v : V} {d : D}, Dw K A W H v d → tf d = true → Dw K B W H v d
  | _, _, .non, _ => .non
  | _, _, .bl b, _ => .bl b
  | _, _, .int i, _ => .int i
  | _, _, .str z, _ => .str z
  | _, _, .tup h1 a, e => .tup h1 (DwA.tfree h a (by simpa [tf] using e))
  | _, _, .lst w h1 a, e => .lst w h1 (DwA.tfree h a (by simpa [tf] using e))
  | _, _, .dk w h1 a, e => .dk w h1 (DwK.tfree h a (by simp only [tf, Bool.and_eq_true] at e; exact e.2))
  | _, _, .st, e => by simp [dSt, tf, isTok] at e
  | _, _, .scr, e => by simp [dScr, tf, isTok] at e
  | _, _, .cell _, e => by simp [dCell, tf, isTok] at e
  | _, _, .obj _, e => by simp [dRef, tf, isTok] at e
  | _, _, .ins _ _ _ _ _, e => by simp [dIns, tf, isTok] at e
theorem DwA.tfree (h : ∀ (n : Nat) (b : Addr), A.as[n]? = some b → B.as[n]? = some b ∨ True) : ∀ {v : List V} {d : List D}, DwA K A W H v d → tfA d = true → DwA K B W H v d
  | _, _, .nil, _ => .nil
  | _, _, .cons h1 a, e => .cons (Dw.tfree h h1 (by simp only [tfA, Bool.and_eq_true] at e; exact e.1)) (DwA.tfree h a (by simp only [tfA, Bool.and_eq_true] at e; exact e.2))
theorem DwK.tfree (h : ∀ (n : Nat) (b : Addr), A.as[n]? = some b → B.as[n]? = some b ∨ True) : ∀ {v : List (Key × V)} {d : List (D × D)}, DwK K A W H v d → tfK d = true → DwK K B W H v d
  | _, _, .nil, _ => .nil
  | _, _, .cons h1 a, e => .cons (Dw.tfree h h1 (by simp only [tfK, Bool.and_eq_true] at e; exact e.1)) (DwK.tfree h a (by simp only [tfK, Bool.and_eq_true] at e; exact e.2))
end
theorem Own.tfree {d : D} (h : Own K A W H a d) (e : tf d = true) : Own K B W H a d := by
  cases h with
  | lst h q => exact .lst h (q.tfree (fun _ _ _ => .inr trivial) (by simpa [tf] using e))
  | dk h q => exact .dk h (q.tfree (fun _ _ _ => .inr trivial) (by simp only [tf, Bool.and_eq_true] at e; exact e.2))
  | ins w h h2' q => simp [dIns, tf, isTok] at e
end
def vCGet (v1 v2 : VT) : VT := fun ρ r Q => v1 ρ r fun d r1 => v2 ρ r1 fun k r2 => ∃ n kvs key z, d = dCell n ∧ r2.cs[n]? = some (.dict kvs) ∧ isTok kvs = false ∧ keyOfD k = some key ∧ lookD kvs key = some z ∧ Q z r2
def vCPut (i : Nat) (vk vv : VT) : VTS := fun N ρ r => vv ρ r fun d r1 => ∃ n, ρ[i]? = some (some (dCell n)) ∧ vk ρ r1 fun kk r2 => ∃ kvs key, r2.cs[n]? = some (.dict kvs) ∧ isTok kvs = false ∧ (kvs.map (·.1)).Nodup ∧ keyOfD kk = some key ∧ kvs.length < sizeLine ∧ N.nx ρ { r2 with cs := r2.cs.set n (.dict (putD kvs key d)) }
section
variable {X : Cx} {M : Mode} {B O O' O1 : List Nat} {a b o e : Expr} {i : Nat} {pos pos' : Pos} {v1 v2 : VT} {sts : List Stmt} {s1 : VTS}
/-- modes whose things do not hang on cells -/
class TfM (M : Mode) : Prop where
  back : ∀ {K : PySem.W.Frag} {A B : Amb} {W : Addr → Prop} {Hs H : Hp} {v : V} {d : D}, (∀ b, ¬ A.U b → ¬ B.U b) → M K A Hs W H v d → tf d = true → M K B Hs W H v d
instance : TfM mF := ⟨fun _ h e => h.tfree (fun _ _ _ => .inr trivial) e⟩
instance : TfM mL := ⟨fun u h e => h.elim (fun ⟨m, a, e1, h, w, n, z⟩ => .inl ⟨m, a, e1, h.tfree e, w, u a n, z⟩) fun ⟨m, h⟩ => .inr ⟨m, h.tfree (fun _ _ _ => .inr trivial) e⟩⟩
end
section
variable {ρ : En} {r : Rs} {Q : D → Rs → Prop} {N : VN} {v1 v2 : VT} {i n : Nat} {d : D}
instance : St (vCGet v1 v2 ρ r Q) (v1 ρ r fun d r1 => v2 ρ r1 fun k r2 => ∃ n kvs key z, d = dCell n ∧ r2.cs[n]? = some (.dict kvs) ∧ isTok kvs = false ∧ keyOfD k = some key ∧ lookD kvs key = some z ∧ Q z r2) := ⟨id⟩
instance : St (vCPut i v1 v2 N ρ r) (v2 ρ r fun d r1 => ∃ n, ρ[i]? = some (some (dCell n)) ∧ v1 ρ r1 fun kk r2 => ∃ kvs key, r2.cs[n]? = some (.dict kvs) ∧ isTok kvs = false ∧ (kvs.map (·.1)).Nodup ∧ keyOfD kk = some key ∧ kvs.length < sizeLine ∧ N.nx ρ { r2 with cs := r2.cs.set n (.dict (putD kvs key d)) }) := ⟨id⟩
end
end Sn
namespace Sn
open PySem PySem.Spec PyProof.Rows L2
section
variable {X : Cx} {M : Mode} {B O : List Nat} {a e : Expr} {vs : VTA} {v1 : VT} {p pos : Pos} {i j : Nat} {x y : Str}
/-- a, b = a list of two -/
def vAsgL2 (i j : Nat) (v : VT) : VTS := fun N ρ r => v ρ r fun d r1 => ∃ d1 d2, d = .list [d1, d2] ∧ N.nx ((ρ.set i (some d1)).set j (some d2)) r1
/-- d[k1], d[k2], d[k3] = a tuple of three, d a cell -/
def vCPut3 (i : Nat) (z1 z2 z3 : Str) (v : VT) : VTS := fun N ρ r => v ρ r fun d r1 => ∃ d1 d2 d3 n kvs, d = .tuple [d1, d2, d3] ∧ ρ[i]? = some (some (dCell n)) ∧ r1.cs[n]? = some (.dict kvs) ∧ isTok kvs = false ∧ (kvs.map (·.1)).Nodup ∧ kvs.length + 3 < sizeLine ∧
  N.nx ρ { r1 with cs := ((r1.cs.set n (.dict (putD kvs (.inr z1) d1))).set n (.dict (putD (putD kvs (.inr z1) d1) (.inr z2) d2))).set n (.dict (putD (putD (putD kvs (.inr z1) d1) (.inr z2) d2) (.inr z3) d3)) }
end
section
variable {X : Cx} {M : Mode} {B O O' : List Nat} {a b c : Expr} {v1 v2 v3 : VT} {pos px py pz pt : Pos} {i j l : Nat} {x y z : Str}
/-- a, b, c = a new list, two values -/
def vPar3O (i j l : Nat) (v1 v2 v3 : VT) : VTS := fun N ρ r => v1 ρ r fun d r1 => v2 ρ r1 fun e r2 => v3 ρ r2 fun f r3 => isMut d = true ∧ N.nx (((ρ.set i (some d)).set j (some e)).set l (some f)) r3
end
section
variable {ρ : En} {r : Rs} {Q : D → Rs → Prop} {N : VN} {v : VT} {i j : Nat}
instance {z1 z2 z3 : Str} : St (vCPut3 i z1 z2 z3 v N ρ r) (v ρ r fun d r1 => ∃ d1 d2 d3 n kvs, d = .tuple [d1, d2, d3] ∧ ρ[i]? = some (some (dCell n)) ∧ r1.cs[n]? = some (.dict kvs) ∧ isTok kvs = false ∧ (kvs.map (·.1)).Nodup ∧ kvs.length + 3 < sizeLine ∧
  N.nx ρ { r1 with cs := ((r1.cs.set n (.dict (putD kvs (.inr z1) d1))).set n (.dict (putD (putD kvs (.inr z1) d1) (.inr z2) d2))).set n (.dict (putD (putD (putD kvs (.inr z1) d1) (.inr z2) d2) (.inr z3) d3)) }) := ⟨id⟩
instance {v1 v2 v3 : VT} {l : Nat} : St (vPar3O i j l v1 v2 v3 N ρ r) (v1 ρ r fun d r1 => v2 ρ r1 fun e r2 => v3 ρ r2 fun f r3 => isMut d = true ∧ N.nx (((ρ.set i (some d)).set j (some e)).set l (some f)) r3) := ⟨id⟩
instance : St (vAsgL2 i j v N ρ r) (v ρ r fun d r1 => ∃ d1 d2, d = .list [d1, d2] ∧ N.nx ((ρ.set i (some d1)).set j (some d2)) r1) := ⟨id⟩
end
end Sn
namespace Sn
open PySem PySem.Spec PyProof.Rows L2
theorem DwK.mem {K : PySem.W.Frag} {A : Amb} {W : Addr → Prop} {H : Hp} {p : Key × V} : ∀ {xs : List (Key × V)} {ds : List (D × D)}, DwK K A W H xs ds → p ∈ xs → ∃ z, (keyD p.1, z) ∈ ds ∧ Dw K A W H p.2 z
  | _, _, .nil, h => by cases h
  | _, _, .cons h a, m => by
    rcases List.mem_cons.mp m with rfl | m
    · exact ⟨_, List.mem_cons_self .., h⟩
    · obtain ⟨z, h1, h2⟩ := DwK.mem a m
      exact ⟨z, List.mem_cons_of_mem _ h1, h2⟩
def vOwnEq (C : Addr) (vf : VF) (v1 v2 : VT) : VT := fun ρ r Q => v1 ρ r fun d r1 => v2 ρ r1 fun e r2 => (∃ fs, d = dIns C fs) ∧ (∃ gs, e = dIns C gs) ∧ vf [d, e] r2 fun z r3 => (∃ b, z = .bool b) ∧ Q z r3
def vIsC (C : Addr) (v1 : VT) : VT := fun ρ r Q => v1 ρ r fun d r1 => (∃ fs, d = dIns C fs) ∧ Q (.bool true) r1
section
variable {ρ : En} {r : Rs} {Q : D → Rs → Prop} {v1 v2 : VT} {C : Addr} {vf : VF}
instance : St (vOwnEq C vf v1 v2 ρ r Q) (v1 ρ r fun d r1 => v2 ρ r1 fun e r2 => (∃ fs, d = dIns C fs) ∧ (∃ gs, e = dIns C gs) ∧ vf [d, e] r2 fun z r3 => (∃ b, z = .bool b) ∧ Q z r3) := ⟨id⟩
instance : St (vIsC C v1 ρ r Q) (v1 ρ r fun d r1 => (∃ fs, d = dIns C fs) ∧ Q (.bool true) r1) := ⟨id⟩
instance {fs : List (Str × D)} {P : Prop} : St ((∃ gs, dIns C fs = dIns C gs) ∧ P) P := ⟨fun q => ⟨⟨fs, rfl⟩, q⟩⟩
instance {b : Bool} {P : Prop} : St ((∃ c, (.bool b : D) = .bool c) ∧ P) P := ⟨fun q => ⟨⟨b, rfl⟩, q⟩⟩
end
end Sn
namespace Sn
open PySem PySem.Spec PyProof.Rows L2
theorem Paired.snoc {α β : Type} {R : α → β → Prop} {a : α} {b : β} (h : R a b) : ∀ {as : List α} {bs : List β}, Paired R as bs → Paired R (as ++ [a]) (bs ++ [b])
  | _, _, .nil => .cons h .nil
  | _, _, .cons g t => .cons g (Paired.snoc h t)
end Sn
namespace Sn
open PySem PySem.Spec PyProof.Rows L2
def vLput (i : Nat) (vk vv : VT) : VTS := fun N ρ r => vv ρ r fun d r1 => ∃ ds, ρ[i]? = some (some (.list ds)) ∧ vk ρ r1 fun kk r2 => ∃ (k : Int) (j : Nat), kk = .int k ∧ ixN ds.length k = some j ∧ N.nx (ρ.set i (some (.list (ds.set j d)))) r2
section
variable {K : PySem.W.Frag} {A : Amb} {W : Addr → Prop} {H : Hp}
theorem DwA.set {v : V} {d : D} (h : Dw K A W H v d) : ∀ {xs : List V} {ds : List D}, DwA K A W H xs ds → ∀ j, DwA K A W H (xs.set j v) (ds.set j d)
  | _, _, .nil, _ => .nil
  | _, _, .cons _ a, 0 => .cons h a
  | _, _, .cons g a, j + 1 => .cons g (DwA.set h a j)
end
section
variable {N : VN} {ρ : En} {r : Rs} {i : Nat} {vk vv : VT}
instance : St (vLput i vk vv N ρ r) (vv ρ r fun d r1 => ∃ ds, ρ[i]? = some (some (.list ds)) ∧ vk ρ r1 fun kk r2 => ∃ (k : Int) (j : Nat), kk = .int k ∧ ixN ds.length k = some j ∧ N.nx (ρ.set i (some (.list (ds.set j d)))) r2) := ⟨id⟩
end
def enumD (ds : List D) : List D := (List.range ds.length).map fun i => .tuple [.int (i : Nat), ds.getD i .none]
def vEnumI (v : VT) : VTI := fun ρ r Q => v ρ r fun d r1 => ∃ ds, d = .tuple ds ∧ Q (enumD ds) r1
section
variable {ρ : En} {r : Rs} {v : VT} {QA : List D → Rs → Prop}
instance : St (vEnumI v ρ r QA) (v ρ r fun d r1 => ∃ ds, d = .tuple ds ∧ QA (enumD ds) r1) := ⟨id⟩
end
end Sn
namespace Sn
open PySem PySem.Spec PyProof.Rows L2
/-- as FnR, with a promise that knows how large the heap was -/
def FnY (P : Program) (w : World) (K : PySem.W.Frag) (mg : Str → Option Value) (base : Heap) (CX : CXT) (k : Nat) (f : Addr) (sp : Nat → Sp) : Prop :=
  ∀ (A : Around) (outer : List PySem.Env) (s : Shared) (H : Hp) (us : List Value) (vs : List V) (Q : VK) (E : XK), Room k A → Env0 P w K mg base A outer s H → Vals vs us → sp s.heap.objs.size vs H Q E →
    codeAny (model P w) A (.call (.ref f) ⟨us, []⟩) (CR CX outer P w H s Q E) s
section
variable {P : Program} {w : World} {K : PySem.W.Frag} {mg : Str → Option Value} {base : Heap}
theorem FnY.mono {CX : CXT} {j k : Nat} {f : Addr} {sp : Nat → Sp} (F : FnY P w K mg base CX j f sp) (h : j ≤ k) : FnY P w K mg base CX k f sp := fun A outer s H us vs Q E hr => F A outer s H us vs Q E (hr.mono h)
end
end Sn
namespace Sn
open PySem PySem.Spec PyProof.Rows L2
def vForOwn (C : Addr) (fn : Str) (i : Nat) (t : Tgt) (body : VTS) : VTS := fun N ρ r => ∃ fs kvs, ρ[i]? = some (some (dIns C fs)) ∧ fs.lookup fn = some (.dict kvs) ∧ isTok kvs = false ∧ vLoop t body (kvs.map (·.1)) { N with rt := fun _ _ => False } ρ r
def vOwnIx (C : Addr) (vf : VF) (v1 v2 : VT) : VT := fun ρ r Q => v1 ρ r fun d r1 => ∃ fs, d = dIns C fs ∧ v2 ρ r1 fun k r2 => vf [d, k] r2 Q
def vLoopS (i j : Nat) (body : VTS) : List D → VTS
  | [], N, ρ, r => N.nx ρ r
  | d :: ds, N, ρ, r => ∃ x xs, d = .tuple (x :: xs) ∧ body { nx := vLoopS i j body ds N, ct := vLoopS i j body ds N, bk := N.nx, rt := N.rt } ((ρ.set i (some x)).set j (some (.list xs))) r
def vForS (vi : VTI) (i j : Nat) (body : VTS) : VTS := fun N ρ r => vi ρ r fun ds r1 => vLoopS i j body ds N ρ r1
def vCallAK (vf : VF) (as : List ArgV) (v : VT) : VT := fun ρ r Q => vArgs as ρ r fun ds r1 => v ρ r1 fun d r2 => vf (ds ++ [d]) r2 Q
section
variable {ρ : En} {r : Rs} {Q : D → Rs → Prop} {N : VN} {s : VTS} {v v1 v2 : VT} {as : List ArgV} {i j : Nat} {C : Addr} {fn : Str} {vf : VF} {vi : VTI} {tg : Tgt}
instance : St (vForOwn C fn i tg s N ρ r) (∃ fs kvs, ρ[i]? = some (some (dIns C fs)) ∧ fs.lookup fn = some (.dict kvs) ∧ isTok kvs = false ∧ vLoop tg s (kvs.map (·.1)) { N with rt := fun _ _ => False } ρ r) := ⟨id⟩
instance : St (vOwnIx C vf v1 v2 ρ r Q) (v1 ρ r fun d r1 => ∃ fs, d = dIns C fs ∧ v2 ρ r1 fun k r2 => vf [d, k] r2 Q) := ⟨id⟩
instance : St (vForS vi i j s N ρ r) (vi ρ r fun ds r1 => vLoopS i j s ds N ρ r1) := ⟨id⟩
instance : St (vLoopS i j s [] N ρ r) (N.nx ρ r) := ⟨id⟩
instance : St (vCallAK vf as v ρ r Q) (vArgs as ρ r fun ds r1 => v ρ r1 fun d r2 => vf (ds ++ [d]) r2 Q) := ⟨id⟩
end
end Sn
namespace Sn
open PySem PySem.Spec PyProof.Rows L2
def revZ (z : Str) : Str := ⟨((Builtin.Str.strSliceIndices none none (-1) z.length).filterMap (z.cps[·]?)).toArray⟩
def vRevS (v : VT) : VT := fun ρ r Q => v ρ r fun d r1 => ∃ z, d = .str z ∧ z.length ≤ sizeLine ∧ Q (.str (revZ z)) r1
section
variable {ρ : En} {r : Rs} {Q : D → Rs → Prop} {v : VT}
instance : St (vRevS v ρ r Q) (v ρ r fun d r1 => ∃ z, d = .str z ∧ z.length ≤ sizeLine ∧ Q (.str (revZ z)) r1) := ⟨id⟩
end
end Sn
namespace Sn
open PySem PySem.Spec PyProof.Rows L2
/-- what is wanted of an error: its class's place, its attributes -/
abbrev EK := Addr → List (Str × D) → Rs → Prop
abbrev VTSx := VN → EK → En → Rs → Prop
abbrev VTx := En → Rs → (D → Rs → Prop) → EK → Prop
def KeOk (K : PySem.W.Frag) (A : Amb) (W0 : Addr → Prop) (H0 : Hp) (E : XK) (E0 : EK) : Prop :=
  ∀ C fs r', E0 C fs r' → ∀ (d : Addr) (xs : List (Str × V)) (H' : Hp) (W' : Addr → Prop), Ext K A W0 H0 W' H' → Res K A W' H' r' → H' d = none → DwF K A W' H' xs fs → E (.ref C) (some d) (upd H' d (.xd xs))
def xOf (t : VTS) : VTSx := fun N _ ρ r => t N ρ r
def xSeq (t u : VTSx) : VTSx := fun N E0 ρ r => t { N with nx := fun ρ' r' => u N E0 ρ' r' } E0 ρ r
def xIf (c : VTT) (t u : VTSx) : VTSx := fun N E0 ρ r => c ρ r fun b r1 => if b = true then t N E0 ρ r1 else u N E0 ρ r1
def xLoop (t : Tgt) (body : VTSx) : List D → VTSx
  | [], N, _, ρ, r => N.nx ρ r
  | d :: ds, N, E0, ρ, r => vBind t d ρ fun ρ' => body { nx := xLoop t body ds N E0, ct := xLoop t body ds N E0, bk := N.nx, rt := N.rt } E0 ρ' r
def xFor (vi : VTI) (t : Tgt) (body : VTSx) : VTSx := fun N E0 ρ r => vi ρ r fun ds r1 => xLoop t body ds N E0 ρ r1
def xRet (v : VTx) : VTSx := fun N E0 ρ r => v ρ r (fun d r1 => N.rt d r1) E0
def xRaise (C : Addr) (f : Str) (v : VT) : VTSx := fun _ E0 ρ r => v ρ r fun d r1 => E0 C [(f, d)] r1
theorem KeOk.reb {K : PySem.W.Frag} {A B : Amb} {W : Addr → Prop} {H : Hp} {E : XK} {E0 : EK} (l : A.Like B) (h : KeOk K A W H E E0) : KeOk K B W H E E0 := fun C fs r' q d xs H' W' x R n m =>
  h C fs r' q d xs H' W' (x.reb l.sym) (R.reb l.sym) n (DwF.reb l.sym.d l.sym.s l.sym.as m)
section
variable {X : Cx} {E : XK} {O : List Nat} {k : Nat} {f : Addr} {fd : FuncData} {ps : List Str} {vf : List D → Rs → (D → Rs → Prop) → EK → Prop} {x : Str} {p pos : Pos} {e : Expr} {es : List Expr} {as : List ArgV} {bs : List Bool}
def xCall (vf : List D → Rs → (D → Rs → Prop) → EK → Prop) (as : List ArgV) : VTx := fun ρ r Q E0 => vArgs as ρ r fun ds r1 => vf ds r1 Q E0
def xCallS (vf : List D → Rs → (D → Rs → Prop) → EK → Prop) (as : List ArgV) : VTx := fun ρ r Q E0 => vArgs as ρ r fun ds r1 => ∃ d rest, ds = d :: rest ∧ rest.length ≤ 1000 ∧ vf [d, .tuple rest] r1 Q E0
end
end Sn
namespace Sn
open PySem PySem.Spec PyProof.Rows L2
def vCallZ (vf : VF) (va : VTA) : VT := fun ρ r Q => va ρ r fun ds r1 => ds.length ≤ 1000 ∧ vf [.tuple ds] r1 Q
section
variable {ρ : En} {r : Rs} {Q : D → Rs → Prop} {vf : VF} {va : VTA} {N : VN} {E0 : EK} {t u : VTSx} {v : VT} {s : VTS} {c : VTT} {vi : VTI} {tg : Tgt} {C : Addr} {f : Str} {d : D} {ds : List D} {as : List ArgV} {vx : List D → Rs → (D → Rs → Prop) → EK → Prop} {xv : VTx}
instance : St (vCallZ vf va ρ r Q) (va ρ r fun ds r1 => ds.length ≤ 1000 ∧ vf [.tuple ds] r1 Q) := ⟨id⟩
instance : St (xOf s N E0 ρ r) (s N ρ r) := ⟨id⟩
instance : St (xSeq t u N E0 ρ r) (t { N with nx := fun ρ' r' => u N E0 ρ' r' } E0 ρ r) := ⟨id⟩
instance : St (xIf c t u N E0 ρ r) (c ρ r fun b r1 => if b = true then t N E0 ρ r1 else u N E0 ρ r1) := ⟨id⟩
instance : St (xFor vi tg t N E0 ρ r) (vi ρ r fun ds r1 => xLoop tg t ds N E0 ρ r1) := ⟨id⟩
instance : St (xLoop tg t [] N E0 ρ r) (N.nx ρ r) := ⟨id⟩
instance : St (xRet xv N E0 ρ r) (xv ρ r (fun d r1 => N.rt d r1) E0) := ⟨id⟩
instance : St (xRaise C f v N E0 ρ r) (v ρ r fun d r1 => E0 C [(f, d)] r1) := ⟨id⟩
instance : St (xCall vx as ρ r Q E0) (vArgs as ρ r fun ds r1 => vx ds r1 Q E0) := ⟨id⟩
instance : St (xCallS vx as ρ r Q E0) (vArgs as ρ r fun ds r1 => ∃ d rest, ds = d :: rest ∧ rest.length ≤ 1000 ∧ vx [d, .tuple rest] r1 Q E0) := ⟨id⟩
end
end Sn
namespace Sn
open PySem PySem.Spec PyProof.Rows L2
/-- C(..), by an own __init__(self, *v) -/
def mkZ (C : Addr) (vf : VFX) (ds : List D) (r : Rs) (Q : D → Rs → Prop) : Prop := ds.length ≤ 10000 ∧ vf [dIns C [], .tuple ds] r fun d es r2 => d = .none ∧ ∃ s, es = [s] ∧ isMut s = true ∧ Q s r2
def vMakeZ (C : Addr) (vf : VFX) (va : VTA) : VT := fun ρ r Q => va ρ r fun ds r1 => mkZ C vf ds r1 Q
def vMakeS (C : Addr) (vf : VFX) (v : VT) : VT := fun ρ r Q => v ρ r fun d r1 => ∃ ds, (d = .list ds ∨ d = .tuple ds) ∧ mkZ C vf ds r1 Q
def vOwnIn (C : Addr) (vf : VF) (v1 v2 : VT) : VT := fun ρ r Q => v1 ρ r fun d r1 => v2 ρ r1 fun e r2 => (∃ fs, e = dIns C fs) ∧ vf [e, d] r2 fun z r3 => ∃ b, z = .bool b ∧ Q (.bool b) r3
def vOwnNin (C : Addr) (vf : VF) (v1 v2 : VT) : VT := fun ρ r Q => v1 ρ r fun d r1 => v2 ρ r1 fun e r2 => (∃ fs, e = dIns C fs) ∧ vf [e, d] r2 fun z r3 => ∃ b, z = .bool b ∧ Q (.bool !b) r3
def vOwnBin (C : Addr) (vf : VF) (v1 v2 : VT) : VT := fun ρ r Q => v1 ρ r fun d r1 => v2 ρ r1 fun e r2 => (∃ fs, d = dIns C fs) ∧ (∃ gs, e = dIns C gs) ∧ vf [d, e] r2 Q
section
variable {ρ : En} {r : Rs} {Q : D → Rs → Prop} {v1 v2 : VT} {va : VTA} {C : Addr} {vf : VF} {vx : VFX}
instance : St (vMakeZ C vx va ρ r Q) (va ρ r fun ds r1 => mkZ C vx ds r1 Q) := ⟨id⟩
instance : St (vMakeS C vx v1 ρ r Q) (v1 ρ r fun d r1 => ∃ ds, (d = .list ds ∨ d = .tuple ds) ∧ mkZ C vx ds r1 Q) := ⟨id⟩
instance : St (vOwnIn C vf v1 v2 ρ r Q) (v1 ρ r fun d r1 => v2 ρ r1 fun e r2 => (∃ fs, e = dIns C fs) ∧ vf [e, d] r2 fun z r3 => ∃ b, z = .bool b ∧ Q (.bool b) r3) := ⟨id⟩
instance : St (vOwnNin C vf v1 v2 ρ r Q) (v1 ρ r fun d r1 => v2 ρ r1 fun e r2 => (∃ fs, e = dIns C fs) ∧ vf [e, d] r2 fun z r3 => ∃ b, z = .bool b ∧ Q (.bool !b) r3) := ⟨id⟩
instance : St (vOwnBin C vf v1 v2 ρ r Q) (v1 ρ r fun d r1 => v2 ρ r1 fun e r2 => (∃ fs, d = dIns C fs) ∧ (∃ gs, e = dIns C gs) ∧ vf [d, e] r2 Q) := ⟨id⟩
instance {ds : List D} {r1 : Rs} : St (∃ es, ((.list ds : D) = .list es ∨ (.list ds : D) = .tuple es) ∧ mkZ C vx es r1 Q) (mkZ C vx ds r1 Q) := ⟨fun q => ⟨ds, .inl rfl, q⟩⟩
instance {ds : List D} {r1 : Rs} : St (∃ es, ((.tuple ds : D) = .list es ∨ (.tuple ds : D) = .tuple es) ∧ mkZ C vx es r1 Q) (mkZ C vx ds r1 Q) := ⟨fun q => ⟨ds, .inr rfl, q⟩⟩
end
end Sn
namespace Sn
open PySem PySem.Spec PyProof.Rows L2
def itemsD (kvs : List (D × D)) : List D := kvs.map fun p => .tuple [p.1, p.2]
def vItemsI (v : VT) : VTI := fun ρ r Q => v ρ r fun d r1 => ∃ kvs, d = .dict kvs ∧ isTok kvs = false ∧ Q (itemsD kvs) r1
section
variable {X : Cx} {O : List Nat} {e : Expr} {te : TE} {v1 : VT} {apos cpos tpos : Pos} {elts : List Expr} {kk : Nat}
theorem DwK.at_ {K : PySem.W.Frag} {A : Amb} {W : Addr → Prop} {H : Hp} : ∀ {xs : List (Key × V)} {ds : List (D × D)}, DwK K A W H xs ds → ∀ {i : Nat} {p : D × D}, ds[i]? = some p → ∃ q : Key × V, xs[i]? = some q ∧ p.1 = keyD q.1 ∧ Dw K A W H q.2 p.2
  | _, _, .nil, i, p, h => by simp at h
  | _, _, .cons (k := k) (v := v) g a, 0, p, h => by
    simp only [List.getElem?_cons_zero, Option.some.injEq] at h
    subst h
    exact ⟨_, rfl, rfl, g⟩
  | _, _, .cons g a, i + 1, p, h => by
    simp only [List.getElem?_cons_succ] at h ⊢
    exact DwK.at_ a h
end
section
variable {ρ : En} {r : Rs} {v : VT} {QA : List D → Rs → Prop}
instance : St (vItemsI v ρ r QA) (v ρ r fun d r1 => ∃ kvs, d = .dict kvs ∧ isTok kvs = false ∧ QA (itemsD kvs) r1) := ⟨id⟩
end
end Sn
namespace Sn
open PySem PySem.Spec PyProof.Rows L2
def vMakeD (C : Addr) (vf : VFX) (dd : List D) : VT := fun _ r Q => vf (dIns C [] :: dd) r fun d es r2 => d = .none ∧ ∃ s, es = [s] ∧ isMut s = true ∧ Q s r2
section
variable {ρ : En} {r : Rs} {Q : D → Rs → Prop} {C : Addr} {vx : VFX} {dd : List D}
instance : St (vMakeD C vx dd ρ r Q) (vx (dIns C [] :: dd) r fun d es r2 => d = .none ∧ ∃ s, es = [s] ∧ isMut s = true ∧ Q s r2) := ⟨id⟩
end
end Sn
namespace Sn
open PySem PySem.Spec PyProof.Rows L2
def vOwnNe (C : Addr) (vf : VF) (v1 v2 : VT) : VT := fun ρ r Q => v1 ρ r fun d r1 => v2 ρ r1 fun e r2 => (∃ fs, d = dIns C fs) ∧ (∃ gs, e = dIns C gs) ∧ vf [d, e] r2 fun z r3 => ∃ b, z = .bool b ∧ Q (.bool !b) r3
section
variable {ρ : En} {r : Rs} {Q : D → Rs → Prop} {v1 v2 : VT} {C : Addr} {vf : VF}
instance : St (vOwnNe C vf v1 v2 ρ r Q) (v1 ρ r fun d r1 => v2 ρ r1 fun e r2 => (∃ fs, d = dIns C fs) ∧ (∃ gs, e = dIns C gs) ∧ vf [d, e] r2 fun z r3 => ∃ b, z = .bool b ∧ Q (.bool !b) r3) := ⟨id⟩
end
end Sn
namespace Sn
open PySem PySem.Spec PyProof.Rows L2
section
variable {X : Cx} {O : List Nat} {elt tg iter tg1 iter1 : Expr} {ifs ifs1 : List Expr} {scope : Scope} {own : List (Str × Nat)} {pos : Pos} {vi1 : VTI} {t t1 : Tgt} {c c1 : VTT} {v : VT} {te : TE} {vp : En → (D → Prop) → Prop}
/-- [e for t in d if c for t1 in i1 if c1], d a dict -/
def vLc2D (vs : List Nat) (vp : En → (D → Prop) → Prop) (t : Tgt) (c : VTT) (vi1 : VTI) (vs1 : List Nat) (t1 : Tgt) (c1 : VTT) (v : VT) : VT := fun ρ r Q => vp ρ fun d => ∃ kvs, d = .dict kvs ∧ isTok kvs = false ∧ kvs.length ≤ 1000 ∧ vLc2Go t c vi1 vs1 t1 c1 v (wipeE ρ vs) (kvs.map (·.1)) r fun zs r2 => Q (.list zs) r2
end
section
variable {ρ : En} {r : Rs} {Q : D → Rs → Prop} {vs vs1 : List Nat} {vp : En → (D → Prop) → Prop} {t t1 : Tgt} {c c1 : VTT} {vi1 : VTI} {v : VT}
instance : St (vLc2D vs vp t c vi1 vs1 t1 c1 v ρ r Q) (vp ρ fun d => ∃ kvs, d = .dict kvs ∧ isTok kvs = false ∧ kvs.length ≤ 1000 ∧ vLc2Go t c vi1 vs1 t1 c1 v (wipeE ρ vs) (kvs.map (·.1)) r fun zs r2 => Q (.list zs) r2) := ⟨id⟩
end
end Sn
namespace Sn
open PySem PySem.Spec PyProof.Rows L2
mutual
/-- the cells that data name are below n -/
def cfr (n : Nat) : D → Bool
  | .dict kvs => cfrK n kvs
  | .list ds => cfrA n ds
  | .tuple ds => cfrA n ds
  | _ => true
def cfrA (n : Nat) : List D → Bool
  | [] => true
  | d :: ds => cfr n d && cfrA n ds
def cfrK (n : Nat) : List (D × D) → Bool
  | [] => true
  | p :: ds => (match p.1, p.2 with
    | .none, .int i => decide (i < (n : Int))
    | _, _ => true) && cfr n p.2 && cfrK n ds
end
theorem cfr_cell {n m : Nat} : cfr n (dCell m) = decide (m < n) := by simp [dCell, cfr, cfrK]
section
variable {K : PySem.W.Frag} {A B : Amb} {W W' : Addr → Prop} {H H' : Hp} {r r' : Rs} {a : Addr} {n : Nat}
mutual
/-- .. with the first cells alone -/
theorem Dw.cut (h1 : B.d = A.d) (h2 : B.s = A.s) (h3 : ∀ (m : Nat) (b : Addr), m < n → A.as[m]? = some b → B.as[m]? = some b) : ∀ {v : V} {d : D}, Dw K A W H v d → cfr n d = true → Dw K B W H v d
  | _, _, .non, _ => .non
  | _, _, .bl b, _ => .bl b
  | _, _, .int i, _ => .int i
  | _, _, .str z, _ => .str z
  | _, _, .tup h a, e => .tup h (DwA.cut h1 h2 h3 a (by simpa [cfr] using e))
  | _, _, .lst w h a, e => .lst w h (DwA.cut h1 h2 h3 a (by simpa [cfr] using e))
  | _, _, .dk w h a, e => .dk w h (DwK.cut h1 h2 h3 a (by simpa [cfr] using e))
  | _, _, .st, _ => by rw [← h1]; exact .st
  | _, _, .scr, _ => by rw [← h2]; exact .scr
  | _, _, .cell h, e => .cell (h3 _ _ (by rw [cfr_cell] at e; simpa using e) h)
  | _, _, .obj a, _ => .obj a
  | _, _, .ins w w2 h h2' a, e => .ins w w2 h h2' (DwF.cut h1 h2 h3 a (by
      simp only [dIns, cfr, cfrK, Bool.and_eq_true] at e
      exact e.2))
theorem DwA.cut (h1 : B.d = A.d) (h2 : B.s = A.s) (h3 : ∀ (m : Nat) (b : Addr), m < n → A.as[m]? = some b → B.as[m]? = some b) : ∀ {v : List V} {d : List D}, DwA K A W H v d → cfrA n d = true → DwA K B W H v d
  | _, _, .nil, _ => .nil
  | _, _, .cons h a, e => .cons (Dw.cut h1 h2 h3 h (by simp only [cfrA, Bool.and_eq_true] at e; exact e.1)) (DwA.cut h1 h2 h3 a (by simp only [cfrA, Bool.and_eq_true] at e; exact e.2))
theorem DwK.cut (h1 : B.d = A.d) (h2 : B.s = A.s) (h3 : ∀ (m : Nat) (b : Addr), m < n → A.as[m]? = some b → B.as[m]? = some b) : ∀ {v : List (Key × V)} {d : List (D × D)}, DwK K A W H v d → cfrK n d = true → DwK K B W H v d
  | _, _, .nil, _ => .nil
  | _, _, .cons h a, e => .cons (Dw.cut h1 h2 h3 h (by simp only [cfrK, Bool.and_eq_true] at e; exact e.1.2)) (DwK.cut h1 h2 h3 a (by simp only [cfrK, Bool.and_eq_true] at e; exact e.2))
theorem DwF.cut (h1 : B.d = A.d) (h2 : B.s = A.s) (h3 : ∀ (m : Nat) (b : Addr), m < n → A.as[m]? = some b → B.as[m]? = some b) : ∀ {v : List (Str × V)} {d : List (Str × D)}, DwF K A W H v d → cfrK n (d.map fun p => (PyData.str p.1, p.2)) = true → DwF K B W H v d
  | _, _, .nil, _ => .nil
  | _, _, .cons h a, e => .cons (Dw.cut h1 h2 h3 h (by simp only [List.map_cons, cfrK, Bool.and_eq_true] at e; exact e.1.2)) (DwF.cut h1 h2 h3 a (by simp only [List.map_cons, cfrK, Bool.and_eq_true] at e; exact e.2))
end
theorem Own.cut {d : D} (h1 : B.d = A.d) (h2 : B.s = A.s) (h3 : ∀ (m : Nat) (b : Addr), m < n → A.as[m]? = some b → B.as[m]? = some b) (h : Own K A W H a d) (e : cfr n d = true) : Own K B W H a d := by
  cases h with
  | lst h q => exact .lst h (q.cut h1 h2 h3 (by simpa [cfr] using e))
  | dk h q => exact .dk h (q.cut h1 h2 h3 (by simpa [cfr] using e))
  | ins w h h2' q => exact .ins w h h2' (q.cut h1 h2 h3 (by
      simp only [dIns, cfr, cfrK, Bool.and_eq_true] at e
      exact e.2))
theorem OwnL.cut {d : D} (h1 : B.d = A.d) (h2 : B.s = A.s) (h3 : ∀ (m : Nat) (b : Addr), m < n → A.as[m]? = some b → B.as[m]? = some b) (h : OwnL K A W H a d) (e : cfr n d = true) : OwnL K B W H a d := by
  cases h with
  | own h => exact .own (h.cut h1 h2 h3 e)
  | lk h q => exact .lk h (q.cut h1 h2 h3 (by simpa [cfr] using e))
end
/-- modes that hold with more cells, too -/
class CutM (M : Mode) : Prop where
  down : ∀ {K : PySem.W.Frag} {A B : Amb} {W : Addr → Prop} {Hs H : Hp} {v : V} {d : D} {n : Nat}, B.d = A.d → B.s = A.s → (∀ (m : Nat) (b : Addr), m < n → A.as[m]? = some b → B.as[m]? = some b) → (∀ b, ¬ A.U b → ¬ B.U b) → cfr n d = true → M K A Hs W H v d → M K B Hs W H v d
  up : ∀ {K : PySem.W.Frag} {A B : Amb} {W : Addr → Prop} {Hs H : Hp} {v : V} {d : D}, B.d = A.d → B.s = A.s → (∀ (n : Nat) (b : Addr), A.as[n]? = some b → B.as[n]? = some b) → (∀ b, Hs b = none → ¬ B.U b) → M K A Hs W H v d → M K B Hs W H v d
instance : CutM mF := ⟨fun h1 h2 h3 _ e h => Dw.cut h1 h2 h3 h e, fun h1 h2 h3 _ h => h.grow h1 h2 h3⟩
instance : CutM mL := ⟨fun h1 h2 h3 h4 c h => h.elim (fun ⟨m, a, e, q, w, u, n⟩ => .inl ⟨m, a, e, q.cut h1 h2 h3 c, w, h4 a u, n⟩) fun ⟨m, h⟩ => .inr ⟨m, Dw.cut h1 h2 h3 h c⟩,
  fun h1 h2 h3 h4 h => h.elim (fun ⟨m, a, e, q, w, u, n⟩ => .inl ⟨m, a, e, q.grow h1 h2 h3, w, h4 a n, n⟩) fun ⟨m, h⟩ => .inr ⟨m, h.grow h1 h2 h3⟩⟩
def vCallF (vf : VF) (va : VTA) : VT := fun ρ r Q => va ρ r fun ds r1 => ∃ pre post, r1.cs = pre ++ post ∧ cfrA pre.length pre = true ∧ cfrA pre.length ds = true ∧ vf ds { r1 with cs := pre } fun d r2 => Q d { r2 with cs := r2.cs ++ post }
def vCallC (m : Nat) (vf : VF) (v0 : VT) (va : VTA) : VT := fun ρ r Q => v0 ρ r fun d r1 => va ρ r1 fun ds r2 => ∃ n d0, ds.length = m ∧ d = dCell n ∧ r2.cs[n]? = some d0 ∧ cfr 0 d0 = true ∧ cfrA 0 ds = true ∧ vf (d0 :: ds) { r2 with cs := [] } fun z r3 => Q z { r3 with cs := r2.cs }
def vItemC (C : Addr) (vf : VFX) (i : Nat) (vk vv : VT) : VTS := fun N ρ r => vv ρ r fun d r1 => ∃ n, ρ[i]? = some (some (dCell n)) ∧ vk ρ r1 fun kk r2 => ∃ fs, r2.cs[n]? = some (dIns C fs) ∧ cfrA 0 [dIns C fs, kk, d] = true ∧ vf [dIns C fs, kk, d] { r2 with cs := [] } fun _ es r3 => ∃ s, es = [s] ∧ N.nx ρ { r3 with cs := r2.cs.set n s }
end Sn
namespace Sn
open PySem PySem.Spec PyProof.Rows L2
section
variable {K : PySem.W.Frag} {A : Amb} {W0 W : Addr → Prop} {H0 H : Hp} {O : List Nat} {σ : L2.St} {ρ : En} {r : Rs} {a : Addr} {n : Nat}
def wipeS : List Nat → En → En
  | [], ρ => ρ
  | i :: is, ρ => wipeS is (ρ.set i none)
end
/-- slots that hold what is known without the cells from n on -/
def allCf (n : Nat) : En → Bool
  | [] => true
  | none :: ρ => allCf n ρ
  | some d :: ρ => cfr n d && allCf n ρ
def endCel (js : List Nat) (n : Nat) (N : VN) : VN where
  nx := fun ρ' r' => allCf n (wipeS js ρ') = true ∧ cfrA n (r'.cs.take n) = true ∧ N.nx (wipeS js ρ') { r' with cs := r'.cs.take n }
  rt := fun d' r' => cfr n d' = true ∧ cfrA n (r'.cs.take n) = true ∧ N.rt d' { r' with cs := r'.cs.take n }
  bk := fun _ _ => False
  ct := fun _ _ => False
def vCelN (i : Nat) (js : List Nat) (s : VTS) : VTS := fun N ρ r => ∃ d, ρ[i]? = some (some d) ∧ s (endCel js r.cs.length N) (ρ.set i (some (dCell r.cs.length))) { r with cs := r.cs ++ [d] }
section
variable {ρ : En} {r : Rs} {Q : D → Rs → Prop} {N : VN} {v1 v2 : VT} {i n : Nat} {d : D} {vf : VF} {vs : VTA} {vfx : VFX} {C : Addr} {js : List Nat} {s : VTS}
instance : St (vCallF vf vs ρ r Q) (vs ρ r fun ds r1 => ∃ pre post, r1.cs = pre ++ post ∧ cfrA pre.length pre = true ∧ cfrA pre.length ds = true ∧ vf ds { r1 with cs := pre } fun d r2 => Q d { r2 with cs := r2.cs ++ post }) := ⟨id⟩
instance : St (vCallC n vf v1 vs ρ r Q) (v1 ρ r fun d r1 => vs ρ r1 fun ds r2 => ∃ c d0, ds.length = n ∧ d = dCell c ∧ r2.cs[c]? = some d0 ∧ cfr 0 d0 = true ∧ cfrA 0 ds = true ∧ vf (d0 :: ds) { r2 with cs := [] } fun z r3 => Q z { r3 with cs := r2.cs }) := ⟨id⟩
instance : St (vItemC C vfx i v1 v2 N ρ r) (v2 ρ r fun d r1 => ∃ n, ρ[i]? = some (some (dCell n)) ∧ v1 ρ r1 fun kk r2 => ∃ fs, r2.cs[n]? = some (dIns C fs) ∧ cfrA 0 [dIns C fs, kk, d] = true ∧ vfx [dIns C fs, kk, d] { r2 with cs := [] } fun _ es r3 => ∃ s, es = [s] ∧ N.nx ρ { r3 with cs := r2.cs.set n s }) := ⟨id⟩
instance : St (vCelN i js s N ρ r) (∃ d, ρ[i]? = some (some d) ∧ s (endCel js r.cs.length N) (ρ.set i (some (dCell r.cs.length))) { r with cs := r.cs ++ [d] }) := ⟨id⟩
end
end Sn
namespace Sn
open PySem PySem.Spec PyProof.Rows L2
def vUpdate (i : Nat) (v : VT) : VTS := fun N ρ r => ∃ kvs, ρ[i]? = some (some (.dict kvs)) ∧ isTok kvs = false ∧ (kvs.map (·.1)).Nodup ∧ v ρ r fun d r1 => ∃ more, d = .dict (more.map fun p => (keyD p.1, p.2)) ∧ kvs.length + more.length ≤ 1000000 ∧ N.nx (ρ.set i (some (.dict (mergeD kvs more)))) r1
section
variable {X : Cx} {M : Mode} {B O O' : List Nat} {a b c e o : Expr} {es : List Expr} {i j : Nat} {x y : Str} {px py pt pos pos' apos : Pos} {v1 v2 v3 : VT} {vm vm2 : VTM} {c1 : VTT} {cm cm2 : VTMT} {va : VTA} {s1 s2 : VTS} {sts els : List Stmt}
def vPop (i : Nat) : VTM := fun ρ r Q => ∃ ds d, ρ[i]? = some (some (.list (ds ++ [d]))) ∧ Q d (ρ.set i (some (.list ds))) r
/-- a, b = e, e changes names' things -/
def vAsgM (t : Tgt) (v : VTM) : VTS := fun N ρ r => v ρ r fun d ρ1 r1 => vBind t d ρ1 fun ρ' => N.nx ρ' r1
def vOrTM (c : VTT) (d : VTMT) : VTMT := fun ρ r Q => c ρ r fun b r1 => if b = true then Q true ρ r1 else d ρ r1 Q
def vAndTM (c : VTT) (d : VTMT) : VTMT := fun ρ r Q => c ρ r fun b r1 => if b = true then d ρ r1 Q else Q false ρ r1
/-- a if c else b, c changes names' things -/
def vIfEM (c : VTMT) (va vb : VT) : VTM := fun ρ r Q => c ρ r fun t ρ1 r1 => if t = true then va ρ1 r1 fun d r2 => Q d ρ1 r2 else vb ρ1 r1 fun d r2 => Q d ρ1 r2
end
def vCallT (vf : VFX) (v0 : VT) (va : VTA) : VT := fun ρ r Q => v0 ρ r fun d r1 => va ρ r1 fun ds r2 => isMut d = true ∧ vf (d :: ds) r2 fun x _ r3 => Q x r3
def vPar4 (i j l m : Nat) (va vb vc vd : VT) : VTS := fun N ρ r => va ρ r fun d r1 => vb ρ r1 fun e r2 => vc ρ r2 fun f r3 => vd ρ r3 fun g r4 => isMut d = true ∧ isMut e = true ∧ N.nx ((((ρ.set i (some d)).set j (some e)).set l (some f)).set m (some g)) r4
section
variable {ρ : En} {r : Rs} {Q : D → Rs → Prop} {QM : D → En → Rs → Prop} {QT : Bool → En → Rs → Prop} {N : VN} {v v1 v2 v3 v4 : VT} {i j l m : Nat} {t : Tgt} {vm : VTM} {c1 : VTT} {cm : VTMT} {va : VTA} {vfx : VFX} {as : List ArgV} {s s2 : VTS}
instance : St (vUpdate i v N ρ r) (∃ kvs, ρ[i]? = some (some (.dict kvs)) ∧ isTok kvs = false ∧ (kvs.map (·.1)).Nodup ∧ v ρ r fun d r1 => ∃ more, d = .dict (more.map fun p => (keyD p.1, p.2)) ∧ kvs.length + more.length ≤ 1000000 ∧ N.nx (ρ.set i (some (.dict (mergeD kvs more)))) r1) := ⟨id⟩
instance : St (vPop i ρ r QM) (∃ ds d, ρ[i]? = some (some (.list (ds ++ [d]))) ∧ QM d (ρ.set i (some (.list ds))) r) := ⟨id⟩
instance : St (vAsgM t vm N ρ r) (vm ρ r fun d ρ1 r1 => vBind t d ρ1 fun ρ' => N.nx ρ' r1) := ⟨id⟩
instance : St (vOrTM c1 cm ρ r QT) (c1 ρ r fun b r1 => if b = true then QT true ρ r1 else cm ρ r1 QT) := ⟨id⟩
instance : St (vAndTM c1 cm ρ r QT) (c1 ρ r fun b r1 => if b = true then cm ρ r1 QT else QT false ρ r1) := ⟨id⟩
instance : St (vIfEM cm v1 v2 ρ r QM) (cm ρ r fun t ρ1 r1 => if t = true then v1 ρ1 r1 fun d r2 => QM d ρ1 r2 else v2 ρ1 r1 fun d r2 => QM d ρ1 r2) := ⟨id⟩
instance : St (vCallT vfx v va ρ r Q) (v ρ r fun d r1 => va ρ r1 fun ds r2 => isMut d = true ∧ vfx (d :: ds) r2 fun x _ r3 => Q x r3) := ⟨id⟩
instance : St (vPar4 i j l m v1 v2 v3 v4 N ρ r) (v1 ρ r fun d r1 => v2 ρ r1 fun e r2 => v3 ρ r2 fun f r3 => v4 ρ r3 fun g r4 => isMut d = true ∧ isMut e = true ∧ N.nx ((((ρ.set i (some d)).set j (some e)).set l (some f)).set m (some g)) r4) := ⟨id⟩
end
end Sn
namespace Sn
open PySem PySem.Spec PyProof.Rows L2
/-- is, is not: of truth values -/
def dIsB (neg : Bool) (d e : D) (Q : D → Prop) : Prop := ∃ a b : Bool, d = .bool a ∧ e = .bool b ∧ Q (.bool (if neg = true then !decide (a = b) else decide (a = b)))
theorem sim_notBl {K : PySem.W.Frag} : OpSim K mL rNotB (dIsB true) := by
  intro A W H rs x y d1 d2 Q0 Q R m1 m2 q k
  obtain ⟨a, b, rfl, rfl, q⟩ := q
  exact ⟨a, b, m1.bl, m2.bl, flat_go R k q rfl (.bl _)⟩
section
variable {X : Cx} {b : Expr}
theorem cp_notB (hm : behindInMarks .IsNot b = false := by exact nomark _) : CmpOk X .IsNot b (dIsB true) := ⟨_, op_notBl, sim_notBl, hm⟩
end
/-- a if c else b as a test -/
def tIfT (t ta tb : TT) : TT := fun σ H Q => t σ H fun c H1 => if c = true then ta σ H1 Q else tb σ H1 Q
def vIfT (c ca cb : VTT) : VTT := fun ρ r Q => c ρ r fun b r1 => if b = true then ca ρ r1 Q else cb ρ r1 Q
section
variable {X : Cx} {O : List Nat} {c a b : Expr} {tc ta tb : TT} {c1 c2 c3 : VTT} {pos : Pos}
theorem pt_ifE (hc : PT X c tc) (ha : PT X a ta) (hb : PT X b tb) : PT X (.IfExp c a b pos) (tIfT tc ta tb) := by
  refine ⟨fun pins s σ H Q I h => ?_⟩
  refine isTrue_IfExp (thn (hc.run pins s σ H _ I h) fun d s1 ⟨H1, I1, q1⟩ => ?_)
  cases d with
  | true => exact ha.run pins s1 σ H1 Q I1 q1
  | false => exact hb.run pins s1 σ H1 Q I1 q1
theorem vt_if (hc : VTs X O c c1) (ha : VTs X O a c2) (hb : VTs X O b c3) : VTs X O (.IfExp c a b pos) (vIfT c1 c2 c3) := PT.imp (pt_ifE hc ha hb) fun σ H Q q => by
  obtain ⟨A, W0, H0, W, ρ, rs, Q0, E, q, k⟩ := q
  refine ⟨A, W0, H0, W, ρ, rs, _, E, q, fun d r1 q1 H1 W1 x1 E1 => ?_⟩
  cases d with
  | true => exact ⟨A, W0, H0, W1, ρ, r1, _, E1, q1, fun e r2 q2 H2 W2 x2 E2 => k e r2 q2 H2 W2 (x1.trans x2) E2⟩
  | false => exact ⟨A, W0, H0, W1, ρ, r1, _, E1, q1, fun e r2 q2 H2 W2 x2 E2 => k e r2 q2 H2 W2 (x1.trans x2) E2⟩
end
def vGet1 (v1 v2 : VT) : VT := fun ρ r Q => v1 ρ r fun d r1 => (∃ kvs, d = .dict kvs ∧ isTok kvs = false) ∧ v2 ρ r1 fun k r2 => dGet2 d k .none fun z => Q z r2
section
variable {X : Cx} {O : List Nat} {o a : Expr} {v1 v2 : VT} {apos cpos : Pos}
/-- d.get(k) -/
theorem ve_dget1 (hu : X.A.units + 1 < cLine) (ho : VB X O o v1) (ha : VB X O a v2) (m : M1 X o "get" apos a cpos) : VE X O (.Call (.Attribute o "get" apos) [a] [] cpos) (vGet1 v1 v2) := PE.imp (pe_dget1 hu ho ha m) fun σ H Q q => by
  obtain ⟨A, W0, H0, W, ρ, rs, Q0, E, q, k⟩ := q
  refine ⟨A, W0, H0, W, ρ, rs, _, E, q, fun d r1 q1 v H1 W1 x1 E1 m1 => ?_⟩
  obtain ⟨⟨kvs, rfl, tk⟩, q1⟩ := q1
  obtain ⟨p, xs, rfl, hp, hx⟩ := m1.dic tk
  refine ⟨p, rfl, .inl ⟨xs, hp⟩, A, W0, H0, W1, ρ, r1, _, E1, q1, fun d' r2 q2 u H2 W2 x2 E2 m2 => ?_⟩
  obtain ⟨kvs', key, ek, tk', hk, q3⟩ := q2
  cases ek
  obtain ⟨p', xs', ep, hp', hx'⟩ := (goodB.st m1 x2 E1.res.av).dic tk
  cases ep
  have x := x1.trans x2
  refine ⟨valV xs' key, .inl ⟨xs', key, hp', m2.kV hk, rfl⟩, ?_⟩
  cases hl : lookD kvs key with
  | none =>
    rw [hx'.look.1 hl]
    rw [hl] at q3
    exact k .none r2 q3 .non H2 W2 x E2 .non
  | some z =>
    obtain ⟨w, hw, hd⟩ := hx'.look.2 z hl
    rw [hw]
    rw [hl] at q3
    exact k z r2 q3 w H2 W2 x E2 hd
end
def PV (v : VT) (ρ : En) (r : Rs) (d : D) : Prop := ∀ Q : D → Rs → Prop, Q d r → v ρ r Q
abbrev PB (v : VT) (ρ : En) (r : Rs) (b : Bool) : Prop := PV v ρ r (.bool b)
def PT (v : VTT) (ρ : En) (r : Rs) (b : Bool) : Prop := ∀ Q : Bool → Rs → Prop, Q b r → v ρ r Q
section
variable {ρ : En} {r : Rs} {va vb v : VT} {ca cb : VTT} {d e x y z : D} {a b : Bool} {i : Nat}
theorem pv_var (h : ρ[i]? = some (some d)) : PV (vVar i) ρ r d := fun Q q => ⟨d, h, q⟩
theorem pv_c : PV (vC d) ρ r d := fun Q q => q
theorem pv_op {f : D → D → (D → Prop) → Prop} (ha : PV va ρ r x) (hb : PV vb ρ r y) (hf : ∀ R : D → Prop, R z → f x y R) : PV (vOp f va vb) ρ r z := fun Q q => ha _ (hb _ (hf _ q))
theorem pb_and (ha : PB va ρ r a) (hb : a = true → PB vb ρ r b) : PB (vAndV va vb) ρ r (a && b) := fun Q q => ha _ ⟨a, rfl, by
  cases a with
  | true => rw [if_pos rfl]; exact hb rfl Q q
  | false => rw [if_neg (by decide)]; exact q⟩
theorem pb_or (ha : PB va ρ r a) (hb : a = false → PB vb ρ r b) : PB (vOrV va vb) ρ r (a || b) := fun Q q => ha _ ⟨a, rfl, by
  cases a with
  | true => rw [if_pos rfl]; exact q
  | false => rw [if_neg (by decide)]; exact hb rfl Q q⟩
theorem pt_b (h : PB v ρ r b) : PT (vB v) ρ r b := fun Q q => h _ ⟨_, rfl, q⟩
theorem pt_not (h : PT ca ρ r b) : PT (vNot ca) ρ r (!b) := fun Q q => h _ q
theorem pt_and (ha : PT ca ρ r a) (hb : a = true → PT cb ρ r b) : PT (vAnd ca cb) ρ r (a && b) := fun Q q => ha _ (by
  cases a with
  | true => rw [if_pos rfl]; exact hb rfl Q q
  | false => rw [if_neg (by decide)]; exact q)
theorem pt_or (ha : PT ca ρ r a) (hb : a = false → PT cb ρ r b) : PT (vOr ca cb) ρ r (a || b) := fun Q q => ha _ (by
  cases a with
  | true => rw [if_pos rfl]; exact q
  | false => rw [if_neg (by decide)]; exact hb rfl Q q)
theorem pv_cb1 {f : List D → (D → Prop) → Prop} (ha : PV va ρ r x) (hf : ∀ R : D → Prop, R z → f [x] R) : PV (vCB f (vCons va vNil)) ρ r z := fun Q q => ha _ (hf _ q)
theorem pv_call1 {vf : VF} (ha : PV va ρ r x) (hf : ∀ Q : D → Rs → Prop, Q z r → vf [x] r Q) : PV (vCall vf (vCons va vNil)) ρ r z := fun Q q => ha _ (hf _ q)
theorem pv_call2 {vf : VF} (ha : PV va ρ r x) (hb : PV vb ρ r y) (hf : ∀ Q : D → Rs → Prop, Q z r → vf [x, y] r Q) : PV (vCall vf (vCons va (vCons vb vNil))) ρ r z := fun Q q => ha _ (hb _ (hf _ q))
theorem pv_call3 {vf : VF} {vc : VT} {u : D} (ha : PV va ρ r x) (hb : PV vb ρ r y) (hc : PV vc ρ r u) (hf : ∀ Q : D → Rs → Prop, Q z r → vf [x, y, u] r Q) : PV (vCall vf (vCons va (vCons vb (vCons vc vNil)))) ρ r z := fun Q q => ha _ (hb _ (hc _ (hf _ q)))
/-- v[k], of a tuple -/
theorem pv_ixT {xs : List D} {k : Int} (ha : PV va ρ r (.tuple xs)) (h : atI xs k = some d) : PV (vOp dIx va (vC (.int k))) ρ r d := pv_op ha pv_c fun R q => i_ixT h q
theorem pv_ixL {xs : List D} {k : Int} (ha : PV va ρ r (.list xs)) (h : atI xs k = some d) : PV (vOp dIx va (vC (.int k))) ρ r d := pv_op ha pv_c fun R q => i_ixL h q
/-- v == "text" -/
theorem pb_eqS {s t : Str} (ha : PV va ρ r (.str s)) : PB (vOp (dEq false) va (vC (.str t))) ρ r (decide (s = t)) := pv_op ha pv_c fun R q => i_eqS q
theorem pb_neS {s t : Str} (ha : PV va ρ r (.str s)) : PB (vOp (dEq true) va (vC (.str t))) ρ r (!decide (s = t)) := pv_op ha pv_c fun R q => i_neS q
/-- len(v) -/
theorem pv_lenT {xs : List D} (ha : PV va ρ r (.tuple xs)) : PV (vCB dLen (vCons va vNil)) ρ r (.int xs.length) := pv_cb1 ha fun R q => q
theorem pv_lenL {xs : List D} (ha : PV va ρ r (.list xs)) : PV (vCB dLen (vCons va vNil)) ρ r (.int xs.length) := pv_cb1 ha fun R q => q
theorem pb_i0 {g : Int → Int → Bool} {m n : Int} (ha : PV va ρ r (.int m)) (hb : PV vb ρ r (.int n)) : PB (vOp (dI0 fun i j => .bool (g i j)) va vb) ρ r (g m n) := pv_op ha hb fun R q => q
theorem pb_eqI {m n : Int} (ha : PV va ρ r (.int m)) (hb : PV vb ρ r (.int n)) : PB (vOp (dEq false) va vb) ρ r (decide (m = n)) := pv_op ha hb fun R q => i_eqI q
theorem pb_neI {m n : Int} (ha : PV va ρ r (.int m)) (hb : PV vb ρ r (.int n)) : PB (vOp (dEq true) va vb) ρ r (!decide (m = n)) := pv_op ha hb fun R q => i_neI q
theorem pb_isi {T n : String} (ha : PV va ρ r d) (e : tyN d = some n) : PB (vIsi T va) ρ r (isTy1 T n) := fun Q q => ha _ ⟨n, e, q⟩
theorem pb_isNone (ha : PV va ρ r d) : PB (vOp (dIsN false) va (vC .none)) ρ r (isNoD d) := pv_op ha pv_c fun R q => ⟨rfl, q⟩
/-- all([v for x in va]) -/
theorem pb_all {f : D → Bool} {vs : List Nat} {xs : List D} (hs : PV va ρ r (.tuple xs)) (hl : xs.length ≤ sizeLine) (h : ∀ d ∈ xs, PB v ((wipeE ρ vs).set i (some d)) r (f d)) : PB (vCB dAll (vCons (vLc vs (vSeqI va) (.nm i) vYes v) vNil)) ρ r (xs.all f) := fun Q q => hs _ ⟨hl, i_go (fun d => .bool (f d)) (fun d hd R q => h d hd R q) ⟨xs.map f, by rw [List.map_map]; rfl, by rw [List.all_map]; exact q⟩⟩
/-- [v for x in va if c] -/
theorem pv_lcF {p : D → Bool} {f : D → D} {vs : List Nat} {xs : List D} (hs : PV va ρ r (.tuple xs)) (hl : xs.length ≤ sizeLine) (h : ∀ d ∈ xs, PT ca ((wipeE ρ vs).set i (some d)) r (p d)) (h2 : ∀ d ∈ xs, p d = true → PV v ((wipeE ρ vs).set i (some d)) r (f d)) : PV (vLc vs (vSeqI va) (.nm i) ca v) ρ r (.list ((xs.filter p).map f)) := fun Q q => hs _ ⟨hl, i_goF p f (fun d hd R R0 q1 q2 => h d hd _ (by
    cases e : p d with
    | true => rw [if_pos rfl]; exact h2 d hd e _ (q1 e)
    | false => rw [if_neg (by decide)]; exact q2 e)) q⟩
/-- v in (texts) -/
theorem pb_inS {z : Str} {ys : List Str} (ha : PV va ρ r (.str z)) (hb : PV vb ρ r (.tuple (ys.map .str))) : PB (vOp (dIn false) va vb) ρ r (decide (z ∈ ys)) := pv_op ha hb fun R q => i_inTs q
theorem pv_eq (h : PV v ρ r d) (e : d = x) : PV v ρ r x := e ▸ h
theorem pb_eq (h : PB v ρ r a) (e : a = b) : PB v ρ r b := e ▸ h
theorem pt_if {cc : VTT} {c : Bool} (hc : PT cc ρ r c) (ha : c = true → PT ca ρ r a) (hb : c = false → PT cb ρ r b) : PT (vIfT cc ca cb) ρ r (if c = true then a else b) := fun Q q => hc _ (by
  cases c with
  | true => rw [if_pos rfl] at q ⊢; exact ha rfl Q q
  | false => rw [if_neg (by decide)] at q ⊢; exact hb rfl Q q)
theorem pv_if {cc : VTT} {c : Bool} (hc : PT cc ρ r c) (ha : c = true → PV va ρ r x) (hb : c = false → PV vb ρ r y) : PV (vIf cc va vb) ρ r (if c = true then x else y) := fun Q q => hc _ (by
  cases c with
  | true => rw [if_pos rfl] at q ⊢; exact ha rfl Q q
  | false => rw [if_neg (by decide)] at q ⊢; exact hb rfl Q q)
theorem pt_eq (h : PT ca ρ r a) (e : a = b) : PT ca ρ r b := e ▸ h
theorem pb_chain {g1 g2 : Int → Int → Bool} {vc : VT} {m n k : Int} (ha : PV va ρ r (.int m)) (hb : PV vb ρ r (.int n)) (hc : PV vc ρ r (.int k)) : PB (vChain (dI0 fun i j => .bool (g1 i j)) (dI0 fun i j => .bool (g2 i j)) va vb vc) ρ r (g1 m n && g2 n k) := fun Q q => ha _ (hb _ ⟨g1 m n, rfl, by
  cases e : g1 m n with
  | true => rw [if_pos rfl]; rw [e] at q; exact hc _ q
  | false => rw [if_neg (by decide)]; rw [e] at q; exact q⟩)
theorem pb_cmpI {g1 : Int → Int → Bool} {g2 : Str → Str → Bool} {m n : Int} (ha : PV va ρ r (.int m)) (hb : PV vb ρ r (.int n)) : PB (vOp (dCmp g1 g2) va vb) ρ r (g1 m n) := pv_op ha hb fun R q => q
/-- what is walked -/
def PI (v : VTI) (ρ : En) (r : Rs) (ds : List D) : Prop := ∀ Q : List D → Rs → Prop, Q ds r → v ρ r Q
theorem pp_tup {xs : List D} (h : PV va ρ r (.tuple xs)) : PI (vSeqI va) ρ r xs := fun Q q => h _ q
theorem pp_list {xs : List D} (h : PV va ρ r (.list xs)) : PI (vSeqI va) ρ r xs := fun Q q => h _ q
theorem pp_str {z : Str} (h : PV va ρ r (.str z)) : PI (vSeqI va) ρ r (strD z) := fun Q q => h _ q
/-- [v for i in .. if c] -/
theorem pv_lcI {p : D → Bool} {f : D → D} {vs : List Nat} {xs : List D} {vi : VTI} (hs : PI vi ρ r xs) (hl : xs.length ≤ sizeLine) (h : ∀ d ∈ xs, PT ca ((wipeE ρ vs).set i (some d)) r (p d)) (h2 : ∀ d ∈ xs, p d = true → PV v ((wipeE ρ vs).set i (some d)) r (f d)) : PV (vLc vs vi (.nm i) ca v) ρ r (.list ((xs.filter p).map f)) := fun Q q => hs _ ⟨hl, i_goF p f (fun d hd R R0 q1 q2 => h d hd _ (by
    cases e : p d with
    | true => rw [if_pos rfl]; exact h2 d hd e _ (q1 e)
    | false => rw [if_neg (by decide)]; exact q2 e)) q⟩
theorem filt_nil {p : D → Bool} {f : D → D} : ∀ xs : List D, ((xs.filter fun d => !p d).map f).isEmpty = xs.all p
  | [] => rfl
  | x :: xs => by
    rw [List.filter_cons, List.all_cons]
    cases p x with
    | true => simpa using filt_nil (p := p) (f := f) xs
    | false => rfl
/-- a list == [] -/
theorem pb_isNil {xs : List D} (h : PV va ρ r (.list xs)) : PB (vOp (dEq false) va (vLst vNil)) ρ r xs.isEmpty := fun Q q => h _ ⟨Nat.zero_le _, .inr (.inr ⟨_, rfl, rfl⟩), by
  rw [if_neg (by decide)]
  have e : PyData.eqv (.list xs) (.list []) = xs.isEmpty := by cases xs <;> rfl
  rw [e]
  exact q⟩
theorem pb_isNilN {xs : List D} (h : PV va ρ r (.list xs)) : PB (vOp (dEq true) va (vLst vNil)) ρ r (!xs.isEmpty) := fun Q q => h _ ⟨Nat.zero_le _, .inr (.inr ⟨_, rfl, rfl⟩), by
  rw [if_pos rfl]
  have e : PyData.eqv (.list xs) (.list []) = xs.isEmpty := by cases xs <;> rfl
  rw [e]
  exact q⟩
theorem pb_nosign {c : Nat} {z : Str} (ha : PV va ρ r (.str ⟨#[c]⟩)) (hb : PV vb ρ r (.str z)) : PB (vOp (dIn true) va vb) ρ r (!decide (c ∈ z.cps.toList)) := pv_op ha hb fun R q => ⟨_, rfl, by rw [if_pos rfl, PySem.StrLaws.found_one]; exact q⟩
theorem pb_inL {z : Str} {ys : List Str} (ha : PV va ρ r (.str z)) (hb : PV vb ρ r (.list (ys.map .str))) : PB (vOp (dIn false) va vb) ρ r (decide (z ∈ ys)) := pv_op ha hb fun R q => i_inLs q
theorem pb_ninS {z : Str} {ys : List Str} (ha : PV va ρ r (.str z)) (hb : PV vb ρ r (.tuple (ys.map .str))) : PB (vOp (dIn true) va vb) ρ r (!decide (z ∈ ys)) := pv_op ha hb fun R q => i_ninTs q
theorem pv_lenS {z : Str} (hz : z.length ≤ sizeLine) (ha : PV va ρ r (.str z)) : PV (vCB dLen (vCons va vNil)) ρ r (.int z.length) := pv_cb1 ha fun R q => ⟨hz, q⟩
theorem inD_ints {n : Int} : ∀ ns : List Int, inD (.int n) (ns.map .int) = decide (n ∈ ns)
  | [] => rfl
  | m :: ns => by
    show (PyData.eqv (.int m) (.int n) || inD (.int n) (ns.map .int)) = _
    rw [inD_ints ns, show PyData.eqv (.int m) (.int n) = decide (m = n) by rw [show PyData.eqv (.int m) (.int n) = (m == n) by simp [PyData.eqv]]; rfl]
    by_cases h : m = n
    · subst h; simp
    · have h2 : n ≠ m := fun e => h e.symm
      simp [h, h2]
theorem flat_ints (ns : List Int) : (ns.map PyData.int).all flatD = true := by
  rw [List.all_eq_true]
  intro d hd
  obtain ⟨n, _, rfl⟩ := List.mem_map.mp hd
  rfl
theorem pb_inI {n : Int} {ns : List Int} (ha : PV va ρ r (.int n)) (hb : PV vb ρ r (.list (ns.map .int))) : PB (vOp (dIn false) va vb) ρ r (decide (n ∈ ns)) := pv_op ha hb fun R q => ⟨.inl ⟨rfl, flat_ints ns⟩, by rw [if_neg (by decide), inD_ints]; exact q⟩
theorem pb_chainC {g1 g2 : Int → Int → Bool} {s1 s2 : Str → Str → Bool} {vc : VT} {m n k : Int} (ha : PV va ρ r (.int m)) (hb : PV vb ρ r (.int n)) (hc : PV vc ρ r (.int k)) : PB (vChain (dCmp g1 s1) (dCmp g2 s2) va vb vc) ρ r (g1 m n && g2 n k) := fun Q q => ha _ (hb _ ⟨g1 m n, rfl, by
  cases e : g1 m n with
  | true => rw [if_pos rfl]; rw [e] at q; exact hc _ q
  | false => rw [if_neg (by decide)]; rw [e] at q; exact q⟩)
theorem i_ifP {s t : VTS} {N : VN} (h : PT ca ρ r b) (h1 : b = true → s N ρ r) (h2 : b = false → t N ρ r) : vIfS ca s t N ρ r := h _ (by
  cases b with
  | true => rw [if_pos rfl]; exact h1 rfl
  | false => rw [if_neg (by decide)]; exact h2 rfl)
theorem pv_disC : ∀ {ps : List (D × D)}, (∀ Q : List (D × D) → Rs → Prop, Q ps r → vPairs (ps.map fun p => (vC p.1, vC p.2)) ρ r Q)
  | [], Q, q => q
  | (a, b) :: ps, Q, q => pv_disC (ps := ps) _ q
/-- {c: d, ..} of constants -/
theorem pv_dispC {ps : List (D × D)} (h : dispOk ps = true) : PV (vDisp (ps.map fun p => (vC p.1, vC p.2))) ρ r (.dict ps) := fun Q q => pv_disC _ (i_dispQ h q)
theorem pv_disp2 {k1 k2 : D} (h1 : PV va ρ r x) (h2 : PV vb ρ r y) (h : dispOk [(k1, x), (k2, y)] = true) : PV (vDisp [(vC k1, va), (vC k2, vb)]) ρ r (.dict [(k1, x), (k2, y)]) := fun Q q => h1 _ (h2 _ (show dDispQ [(k1, x), (k2, y)] (fun z => Q z r) from i_dispQ h q))
theorem pv_get1 {kvs : List (D × D)} {z : Str} (ha : PV va ρ r (.dict kvs)) (tk : isTok kvs = false) (hb : PV vb ρ r (.str z)) : PV (vGet1 va vb) ρ r ((lookD kvs (.inr z)).getD .none) := fun Q q => ha _ ⟨⟨kvs, rfl, tk⟩, hb _ ⟨kvs, .inr z, rfl, tk, rfl, q⟩⟩
theorem pv_get2 {vc : VT} {kvs : List (D × D)} {z : Str} (ha : PV va ρ r (.dict kvs)) (tk : isTok kvs = false) (hb : PV vb ρ r (.str z)) (hc : PV vc ρ r e) : PV (vGet2 va vb vc) ρ r ((lookD kvs (.inr z)).getD e) := fun Q q => ha _ ⟨⟨kvs, rfl, tk⟩, hb _ (hc _ ⟨kvs, .inr z, rfl, tk, rfl, q⟩)⟩
theorem pv_lst1 (ha : PV va ρ r x) : PV (vLst (vCons va vNil)) ρ r (.list [x]) := fun Q q => ha _ ⟨by simp [sizeLine_eq], q⟩
theorem pv_lst2 (ha : PV va ρ r x) (hb : PV vb ρ r y) : PV (vLst (vCons va (vCons vb vNil))) ρ r (.list [x, y]) := fun Q q => ha _ (hb _ ⟨by simp [sizeLine_eq], q⟩)
theorem pv_lst0 : PV (vLst vNil) ρ r (.list []) := fun Q q => ⟨Nat.zero_le _, q⟩
theorem pv_subI {m n : Int} (ha : PV va ρ r (.int m)) (hb : PV vb ρ r (.int n)) : PV (vOp (dI0 fun i j => .int (i - j)) va vb) ρ r (.int (m - n)) := pv_op ha hb fun R q => q
theorem i_setP {N : VN} (h : PV v ρ r d) (q : N.nx (ρ.set i (some d)) r) : vSet i v N ρ r := h _ q
/-- for x in xs: .. return False ..: each of xs is f -/
theorem i_forAll {f : D → Bool} {j : Nat} {body : VTS} {N : VN} {xs : List D} {w : Option D} (hb : ∀ d ∈ xs, ∀ nx : En → Rs → Prop, (f d = true → nx (ρ.set j (some d)) r) → (f d = false → N.rt (.bool false) r) → body ⟨nx, N.rt, N.nx, nx⟩ (ρ.set j (some d)) r) (hF : xs.all f = false → N.rt (.bool false) r) (hT : xs.all f = true → ∀ v, N.nx (ρ.set j v) r) : vLoop (.nm j) body xs N (ρ.set j w) r := by
  refine i_loop (fun i ρ' r' => r' = r ∧ (∀ x ∈ xs.take i, f x = true) ∧ ∃ v, ρ' = ρ.set j v) ⟨rfl, by simp, _, rfl⟩ ?_ ?_
  · rintro i d ρ' r1 nx hd ⟨e, hp, v, rfl⟩ hI
    subst e
    refine i_bind1 ?_
    rw [List.set_set]
    refine hb d (List.mem_of_getElem? hd) nx (fun e => hI _ _ ⟨rfl, fun x hx => ?_, _, rfl⟩) fun e => hF ?_
    · rw [List.take_succ, hd] at hx
      rcases List.mem_append.mp hx with hx | hx
      · exact hp x hx
      · have e2 : x = d := by simpa using hx
        rw [e2]
        exact e
    · rw [List.all_eq_false]
      exact ⟨d, List.mem_of_getElem? hd, by rw [e]; decide⟩
  · rintro ρ' r1 ⟨e, hp, v, rfl⟩
    subst e
    rw [List.take_length] at hp
    exact hT (List.all_eq_true.mpr hp) v
theorem i_sqFor {t : Tgt} {body u : VTS} {N : VN} {vi : VTI} {xs : List D} (hs : PI vi ρ r xs) (q : vLoop t body xs { N with nx := fun ρ' r' => u N ρ' r' } ρ r) : vSeq (vFor vi t body) u N ρ r := hs _ q
theorem i_sqIf {s t u : VTS} {N : VN} (h : PT ca ρ r b) (h1 : b = true → s { N with nx := fun ρ' r' => u N ρ' r' } ρ r) (h2 : b = false → t { N with nx := fun ρ' r' => u N ρ' r' } ρ r) : vSeq (vIfS ca s t) u N ρ r := i_ifP h h1 h2
theorem i_asgStar {N : VN} {xs : List D} {j : Nat} (h : PV v ρ r (.tuple (x :: xs))) (q : N.nx ((ρ.set i (some x)).set j (some (.list xs))) r) : vAsgStar i j v N ρ r := h _ ⟨x, xs, rfl, q⟩
theorem i_matchP {N : VN} {t : D → VTS} (h : PV v ρ r d) (q : t d N ρ r) : vMatch v t N ρ r := h _ q
theorem i_vcY {N : VN} {s : VTS} {t : D → VTS} {n m : Int} (e : m = n) (q : s N ρ r) : vcInt n s t (.int m) N ρ r := ⟨m, rfl, by rw [if_pos (decide_eq_true e)]; exact q⟩
theorem i_vcN {N : VN} {s : VTS} {t : D → VTS} {n m : Int} (e : m ≠ n) (q : t (.int m) N ρ r) : vcInt n s t (.int m) N ρ r := ⟨m, rfl, by rw [if_neg (by rw [decide_eq_false e]; decide)]; exact q⟩
theorem i_vgY {N : VN} {s : VTS} {t : D → VTS} {n m : Int} (e : m = n) (h : PT ca ρ r b) (h1 : b = true → s N ρ r) (h2 : b = false → t (.int m) N ρ r) : vcIntG n ca s t (.int m) N ρ r := ⟨m, rfl, by
  rw [if_pos (decide_eq_true e)]
  refine h _ ?_
  cases b with
  | true => rw [if_pos rfl]; exact h1 rfl
  | false => rw [if_neg (by decide)]; exact h2 rfl⟩
theorem i_vgN {N : VN} {s : VTS} {t : D → VTS} {n m : Int} (e : m ≠ n) (q : t (.int m) N ρ r) : vcIntG n ca s t (.int m) N ρ r := ⟨m, rfl, by rw [if_neg (by rw [decide_eq_false e]; decide)]; exact q⟩
theorem i_retP {N : VN} (h : PV v ρ r d) (q : N.rt d r) : vRet v N ρ r := h _ q
end
end Sn
namespace Sn
open PySem PySem.Spec PyProof.Rows L2 TL
/-- data that hold no sign of an object -/
inductive Pl : PyData → Prop
  | none : Pl .none
  | bool (b : Bool) : Pl (.bool b)
  | int (i : Int) : Pl (.int i)
  | str {z : Str} : z.length ≤ 1000 → Pl (.str z)
  | list (xs : List PyData) : Pl (.list xs)
  | dict {kvs : List (PyData × PyData)} : isTok kvs = false → Pl (.dict kvs)
  | tup {xs : List PyData} : xs.length ≤ 1000 → (∀ x ∈ xs, Pl x) → Pl (.tuple xs)
def wB : PyData → Bool
  | .str z => isW z
  | _ => false
def nB : PyData → Bool
  | .str z => isN z
  | _ => false
def partB : PyData → Bool
  | .tuple [.str k, x] => decide (k = ("text" : Str)) && wB x || decide (k = ("name" : Str)) && nB x
  | _ => false
def exprB : PyData → Bool
  | .tuple ps => decide (1 ≤ ps.length) && decide (ps.length ≤ 4) && ps.all partB
  | _ => false
def tgtB : PyData → Bool
  | .tuple [.str k, x] => decide (k = ("name" : Str)) && nB x || decide (k = ("built" : Str)) && exprB x
  | .tuple [.str k, x, y] => decide (k = ("table" : Str)) && nB x && exprB y
  | _ => false
def givenB : PyData → Bool
  | .tuple es => decide (es.length ≤ 3) && es.all exprB
  | _ => false
def othB (B : PyData → Bool) : PyData → Bool
  | .tuple [] => true
  | d => B d
def stmB (B : PyData → Bool) : PyData → Bool
  | .tuple [.str k] => decide (k = ("fail" : Str))
  | .tuple [.str k, x] => decide (k = ("ask" : Str)) && nB x || decide (k = ("return" : Str)) && exprB x
  | .tuple [.str k, x, y] => if k = "let" then nB x && exprB y else if k = "try" then B x && B y else false
  | .tuple [.str k, x, y, z] => if k = "call" then (isNoD x || nB x) && (tgtB y && givenB z) else if k = "each" then nB x && (wB y && B z) else if k = "there" then exprB x && (B y && othB B z) else false
  | .tuple [.str k, x, y, z, u] => if k = "if" then (if (!exprB x || !wB y) = true then false else B z && othB B u) else false
  | _ => false
def blkB : Nat → PyData → Bool
  | 0, _ => false
  | n + 1, .tuple rs => !rs.isEmpty && rs.all (stmB (blkB n))
  | _ + 1, _ => false
/-- the text, of data that are one -/
def sOf : PyData → Str
  | .str z => z
  | _ => ""
def namesB (lo hi : Nat) : PyData → Bool
  | .tuple xs => decide (lo ≤ xs.length) && decide (xs.length ≤ hi) && xs.all nB && decide (xs.map sOf).Nodup
  | _ => false
def pairB : PyData → Bool
  | .tuple [.str k, x] => isW k && !decide (k = ("" : Str)) && nB x
  | _ => false
def at0D : PyData → PyData
  | .tuple (x :: _) => x
  | _ => .none
def at1D : PyData → PyData
  | .tuple (_ :: x :: _) => x
  | _ => .none
def pairsB : PyData → Bool
  | .tuple ps => decide (1 ≤ ps.length) && decide (ps.length ≤ 12) && ps.all pairB && decide (ps.map fun p => sOf (at0D p)).Nodup
  | _ => false
def restB (k : Str) : List PyData → Bool
  | [] => decide (k ∈ (["star", "entry"] : List Str))
  | [y] => decide (k = ("set" : Str)) && wB y || decide (k = ("table" : Str)) && pairsB y
  | [y, z] => if k = "use" then nB y && nB z else if k = "def" then namesB 0 3 y && blkB 4 z else false
  | _ => false
def itemB : PyData → Bool
  | .tuple (.str k :: x :: t) => if k = "offer" then decide ((((x :: t).length : Nat) : Int) = 1) && namesB 1 12 x else if (!nB x) = true then false else restB k t
  | _ => false
def bindsB (d : PyData) : Bool := decide (sOf (at0D d) ∈ (["use", "set", "table", "def"] : List Str))
def treeB : PyData → Bool
  | .tuple ts => ts.all itemB && decide ((ts.filter bindsB).map fun d => sOf (at1D d)).Nodup
  | _ => false
/-- whether data are a tuple -/
def isTup : PyData → Bool
  | .tuple _ => true
  | _ => false
theorem Pl.ty {d : PyData} (h : Pl d) : (∃ n, tyN d = some n ∧ n ≠ "tuple" ∧ isTup d = false) ∨ ∃ xs, d = .tuple xs ∧ xs.length ≤ 1000 ∧ ∀ x ∈ xs, Pl x := by
  cases h with
  | none => exact .inl ⟨_, rfl, by decide, rfl⟩
  | bool => exact .inl ⟨_, rfl, by decide, rfl⟩
  | int => exact .inl ⟨_, rfl, by decide, rfl⟩
  | str => exact .inl ⟨_, rfl, by decide, rfl⟩
  | list => exact .inl ⟨_, rfl, by decide, rfl⟩
  | dict h => exact .inl ⟨"dict", by simp [tyN, h], by decide, rfl⟩
  | tup h1 h2 => exact .inr ⟨_, rfl, h1, h2⟩
theorem Pl.tyS {d : PyData} (h : Pl d) : (∃ n, tyN d = some n ∧ n ≠ "str" ∧ wB d = false ∧ nB d = false ∧ sOf d = "" ∧ ∀ z, d ≠ .str z) ∨ ∃ z, d = .str z ∧ z.length ≤ 1000 := by
  cases h with
  | none => exact .inl ⟨_, rfl, by decide, rfl, rfl, rfl, fun _ h => nomatch h⟩
  | bool => exact .inl ⟨_, rfl, by decide, rfl, rfl, rfl, fun _ h => nomatch h⟩
  | int => exact .inl ⟨_, rfl, by decide, rfl, rfl, rfl, fun _ h => nomatch h⟩
  | str h => exact .inr ⟨_, rfl, h⟩
  | list => exact .inl ⟨_, rfl, by decide, rfl, rfl, rfl, fun _ h => nomatch h⟩
  | dict h => exact .inl ⟨"dict", by simp [tyN, h], by decide, rfl, rfl, rfl, fun _ h => nomatch h⟩
  | tup h1 h2 => exact .inl ⟨_, rfl, by decide, rfl, rfl, rfl, fun _ h => nomatch h⟩
theorem tyT_not {n : String} (h : n ≠ "tuple") : isTy1 "tuple" n = false := by
  unfold isTy1
  have e : (n == "tuple") = false := by simpa using h
  rw [e]
  rfl
theorem tyT_yes : isTy1 "tuple" "tuple" = true := by decide +kernel
theorem tyS_yes : isTy1 "str" "str" = true := by decide +kernel
theorem partB_len {xs : List D} (h : xs.length ≠ 2) : partB (.tuple xs) = false := by
  rcases xs with _ | ⟨a, _ | ⟨b, _ | ⟨c, xs⟩⟩⟩
  · rfl
  · cases a <;> rfl
  · exact absurd rfl h
  · cases a <;> rfl
theorem len_1 {xs : List D} (h : xs.length = 1) : ∃ a, xs = [a] := by
  rcases xs with _ | ⟨a, _ | ⟨b, xs⟩⟩
  · cases h
  · exact ⟨_, rfl⟩
  · simp at h
theorem len_2 {xs : List D} (h : xs.length = 2) : ∃ a b, xs = [a, b] := by
  rcases xs with _ | ⟨a, xs⟩
  · cases h
  · obtain ⟨b, rfl⟩ := len_1 (xs := xs) (by simpa using h)
    exact ⟨_, _, rfl⟩
theorem len_3 {xs : List D} (h : xs.length = 3) : ∃ a b c, xs = [a, b, c] := by
  rcases xs with _ | ⟨a, xs⟩
  · cases h
  · obtain ⟨b, c, rfl⟩ := len_2 (xs := xs) (by simpa using h)
    exact ⟨_, _, _, rfl⟩
theorem len_4 {xs : List D} (h : xs.length = 4) : ∃ a b c d, xs = [a, b, c, d] := by
  rcases xs with _ | ⟨a, xs⟩
  · cases h
  · obtain ⟨b, c, d, rfl⟩ := len_3 (xs := xs) (by simpa using h)
    exact ⟨_, _, _, _, rfl⟩
theorem tyS_not {n : String} (h : n ≠ "str") : isTy1 "str" n = false := by
  unfold isTy1
  have e : (n == "str") = false := by simpa using h
  rw [e]
  rfl
def isTx : PyData → Bool
  | .str _ => true
  | _ => false
theorem isT1 {d : D} {n : String} (e : tyN d = some n) : isTy1 "tuple" n = isTup d := by
  cases d with
  | dict kvs =>
    simp [tyN] at e
    rw [← e.2]
    rfl
  | _ => cases e; rfl
theorem isS1 {d : D} {n : String} (e : tyN d = some n) : isTy1 "str" n = isTx d := by
  cases d with
  | dict kvs =>
    simp [tyN] at e
    rw [← e.2]
    rfl
  | _ => cases e; rfl
theorem Pl.some {d : D} (h : Pl d) : ∃ n, tyN d = some n := by
  rcases h.ty with ⟨n, e, _⟩ | ⟨xs, rfl, _⟩
  · exact ⟨n, e⟩
  · exact ⟨_, rfl⟩
theorem pb_isT {ρ : En} {r : Rs} {va : VT} {d : D} (ha : PV va ρ r d) (h : Pl d) : PB (vIsi "tuple" va) ρ r (isTup d) := by
  obtain ⟨n, e⟩ := h.some
  exact pb_eq (pb_isi ha e) (isT1 e)
theorem pb_isS {ρ : En} {r : Rs} {va : VT} {d : D} (ha : PV va ρ r d) (h : Pl d) : PB (vIsi "str" va) ρ r (isTx d) := by
  obtain ⟨n, e⟩ := h.some
  exact pb_eq (pb_isi ha e) (isS1 e)
theorem Pl.tup_of {d : D} (h : Pl d) (e : isTup d = true) : ∃ xs, d = .tuple xs ∧ xs.length ≤ 1000 ∧ ∀ x ∈ xs, Pl x := by
  cases h with
  | tup h1 h2 => exact ⟨_, rfl, h1, h2⟩
  | _ => cases e
theorem isS_of {d : D} (e : isTx d = true) : ∃ z, d = .str z := by
  cases d with
  | str z => exact ⟨z, rfl⟩
  | _ => cases e
theorem at_0 {a : D} {t : List D} : atI (a :: t) 0 = some a := atI_nat (j := 0) (v := a) rfl
theorem at_1 {a b : D} {t : List D} : atI (a :: b :: t) 1 = some b := atI_nat (j := 1) (v := b) rfl
theorem at_2 {a b c : D} {t : List D} : atI (a :: b :: c :: t) 2 = some c := atI_nat (j := 2) (v := c) rfl
theorem at_3 {a b c d : D} {t : List D} : atI (a :: b :: c :: d :: t) 3 = some d := atI_nat (j := 3) (v := d) rfl
/-- a tuple of n or more, a text first -/
def tupS (n : Nat) : PyData → Bool
  | .tuple (.str _ :: t) => decide (n ≤ t.length + 1)
  | _ => false
theorem tupS_of {n : Nat} {d : D} (h : tupS n d = true) : ∃ z t, d = .tuple (.str z :: t) ∧ n ≤ t.length + 1 := by
  cases d with
  | tuple xs =>
    rcases xs with _ | ⟨a, t⟩
    · cases h
    · cases a with
      | str z => exact ⟨z, t, rfl, of_decide_eq_true h⟩
      | _ => cases h
  | _ => cases h
theorem tupS2 {d : D} (h : tupS 2 d = true) : ∃ z b t, d = .tuple (.str z :: b :: t) := by
  obtain ⟨z, t, e, h2⟩ := tupS_of h
  subst e
  rcases t with _ | ⟨b, t⟩
  · exact absurd h2 (by decide)
  · exact ⟨_, _, _, rfl⟩
theorem Pl.mem {xs : List D} {x : D} (h : Pl (.tuple xs)) (hm : x ∈ xs) : Pl x := by
  cases h with
  | tup _ h2 => exact h2 x hm
def lenIn (lo hi : Nat) : PyData → Bool
  | .tuple xs => decide (lo ≤ xs.length) && decide (xs.length ≤ hi)
  | _ => false
theorem lenIn_T {lo hi : Nat} {xs : List D} : lenIn lo hi (.tuple xs) = (decide ((lo : Int) ≤ (xs.length : Int)) && decide ((xs.length : Int) ≤ (hi : Int))) := by
  show (decide (lo ≤ xs.length) && decide (xs.length ≤ hi)) = _
  rw [show decide ((lo : Int) ≤ (xs.length : Int)) = decide (lo ≤ xs.length) from decide_eq_decide.mpr (by omega), show decide ((xs.length : Int) ≤ (hi : Int)) = decide (xs.length ≤ hi) from decide_eq_decide.mpr (by omega)]
def itemsB : PyData → Bool
  | .tuple ts => ts.all itemB
  | _ => false
def lenE : PyData → Bool
  | .tuple [] => true
  | _ => false
theorem lenE_T {xs : List D} : lenE (.tuple xs) = decide ((xs.length : Int) = 0) := by
  cases xs with
  | nil => rfl
  | cons x xs => exact (decide_eq_false (by simp; omega)).symm
theorem tupS1 {d : D} (h : tupS 1 d = true) : ∃ z t, d = .tuple (.str z :: t) := by
  obtain ⟨z, t, e, _⟩ := tupS_of h
  exact ⟨z, t, e⟩
/-- the first of a pair: a word that is not empty -/
def keyB : PyData → Bool
  | .tuple [.str z, _] => isW z && !decide (z = ("" : Str))
  | _ => false
theorem pairB_eq (d : D) : pairB d = (keyB d && nB (at1D d)) := by
  cases d with
  | tuple xs =>
    rcases xs with _ | ⟨a, _ | ⟨b, _ | ⟨c, t⟩⟩⟩
    · rfl
    · cases a <;> rfl
    · cases a <;> rfl
    · cases a <;> rfl
  | _ => rfl
theorem pairB_of {d : D} (h : pairB d = true) : ∃ z x, d = .tuple [.str z, x] := by
  cases d with
  | tuple xs =>
    rcases xs with _ | ⟨a, _ | ⟨b, _ | ⟨c, t⟩⟩⟩
    · cases h
    · cases a <;> cases h
    · cases a with
      | str z => exact ⟨_, _, rfl⟩
      | _ => cases h
    · cases a <;> cases h
  | _ => cases h
theorem itemB_of {d : D} (h : itemB d = true) : ∃ k x t, d = .tuple (.str k :: x :: t) ∧ (k ≠ "offer" → nB x = true) := by
  cases d with
  | tuple xs =>
    rcases xs with _ | ⟨a, _ | ⟨b, t⟩⟩
    · cases h
    · cases a <;> cases h
    · cases a with
      | str z =>
        refine ⟨z, b, t, rfl, fun e => ?_⟩
        have h : (if z = "offer" then decide ((((b :: t).length : Nat) : Int) = 1) && namesB 1 12 b else if (!nB b) = true then false else _) = true := h
        rw [if_neg e] at h
        cases q : nB b with
        | true => rfl
        | false => rw [q, if_pos (by rfl)] at h; cases h
      | _ => cases h
  | _ => cases h
theorem putS_in {α : Type} {z : Str} {t : α} : ∀ {acc : List (Str × α)}, z ∈ acc.map (·.1) → (putS acc z t).map (·.1) = acc.map (·.1)
  | [], h => by cases h
  | (m, u) :: r, h => by
    unfold putS
    by_cases e : m = z
    · rw [if_pos e]; rfl
    · rw [if_neg e, List.map_cons, List.map_cons, putS_in (acc := r) ((List.mem_cons.mp h).resolve_left fun q => e q.symm)]
theorem putS_out {α : Type} {z : Str} {t : α} : ∀ {acc : List (Str × α)}, z ∉ acc.map (·.1) → (putS acc z t).map (·.1) = acc.map (·.1) ++ [z]
  | [], _ => rfl
  | (m, u) :: r, h => by
    unfold putS
    have e : m ≠ z := fun q => h (by simp [q])
    rw [if_neg e, List.map_cons, List.map_cons, putS_out (acc := r) (fun q => h (List.mem_cons_of_mem _ q))]
    rfl
theorem dist_le {α : Type} {t : α} : ∀ (zs : List Str) (acc : List (Str × α)), (zs.foldl (fun a z => putS a z t) acc).length ≤ acc.length + zs.length
  | [], acc => Nat.le_refl _
  | z :: zs, acc => by
    have := dist_le (t := t) zs (putS acc z t)
    have e : (putS acc z t).length ≤ acc.length + 1 := by
      by_cases h : z ∈ acc.map (·.1)
      · have := congrArg List.length (putS_in (t := t) h)
        rw [List.length_map, List.length_map] at this
        omega
      · have := congrArg List.length (putS_out (t := t) h)
        rw [List.length_map, List.length_append, List.length_map] at this
        exact Nat.le_of_eq this
    rw [List.foldl_cons, List.length_cons]
    omega
theorem dist_iff {α : Type} {t : α} : ∀ (zs : List Str) (acc : List (Str × α)), (zs.foldl (fun a z => putS a z t) acc).length = acc.length + zs.length ↔ zs.Nodup ∧ ∀ z ∈ zs, z ∉ acc.map (·.1)
  | [], acc => by simp
  | z :: zs, acc => by
    rw [List.foldl_cons, List.length_cons]
    by_cases h : z ∈ acc.map (·.1)
    · have := congrArg List.length (putS_in (t := t) h)
      rw [List.length_map, List.length_map] at this
      have le := dist_le (t := t) zs (putS acc z t)
      constructor
      · intro e; omega
      · intro e; exact absurd h (e.2 z (by simp))
    · have l := congrArg List.length (putS_out (t := t) h)
      rw [List.length_map, List.length_append, List.length_map, List.length_singleton] at l
      have ih := dist_iff (t := t) zs (putS acc z t)
      rw [putS_out h] at ih
      rw [show acc.length + (zs.length + 1) = (putS acc z t).length + zs.length by omega, ih, List.nodup_cons]
      constructor
      · rintro ⟨h1, h2⟩
        refine ⟨⟨fun q => h2 z q (by simp), h1⟩, fun y hy => ?_⟩
        rcases List.mem_cons.mp hy with rfl | hy
        · exact h
        · exact fun q => h2 y hy (List.mem_append_left _ q)
      · rintro ⟨⟨h1, h2⟩, h3⟩
        refine ⟨h2, fun y hy q => ?_⟩
        rcases List.mem_append.mp q with q | q
        · exact h3 y (List.mem_cons_of_mem _ hy) q
        · rw [List.mem_singleton.mp q] at hy
          exact h1 hy
theorem dist_put {t : D} : ∀ (zs : List Str) (acc : List (Str × D)), (zs.map PyData.str).foldl (fun a d => putD a (.inr (sOf d)) t) (acc.map fun p => (PyData.str p.1, p.2)) = (zs.foldl (fun a z => putS a z t) acc).map fun p => (PyData.str p.1, p.2)
  | [], acc => rfl
  | z :: zs, acc => by
    rw [List.map_cons, List.foldl_cons, List.foldl_cons]
    show (zs.map PyData.str).foldl _ (putD _ (.inr z) t) = _
    rw [putD_str (h := fun d : D => d), dist_put zs]
theorem dist_all (zs : List Str) : decide ((((zs.map PyData.str).foldl (fun a d => putD a (.inr (sOf d)) (.bool true)) []).length : Int) = (zs.length : Int)) = decide zs.Nodup := by
  have e := dist_put (t := .bool true) zs []
  have e : (zs.map PyData.str).foldl (fun a d => putD a (.inr (sOf d)) (.bool true)) [] = (zs.foldl (fun a z => putS a z (.bool true)) []).map fun p => (PyData.str p.1, p.2) := e
  rw [e, List.length_map]
  have i := dist_iff (t := PyData.bool true) zs []
  rw [show ([] : List (Str × D)).length = 0 from rfl, Nat.zero_add] at i
  rw [decide_eq_decide, Int.ofNat_inj]
  exact ⟨fun h => (i.mp h).1, fun h => i.mpr ⟨h, by simp⟩⟩
theorem dist_tok (zs : List Str) : isTok ((zs.map PyData.str).foldl (fun a d => putD a (.inr (sOf d)) (.bool true)) []) = false := by
  have e := dist_put (t := .bool true) zs []
  have e : (zs.map PyData.str).foldl (fun a d => putD a (.inr (sOf d)) (.bool true)) [] = (zs.foldl (fun a z => putS a z (.bool true)) []).map fun p => (PyData.str p.1, p.2) := e
  rw [e]
  cases zs.foldl (fun a z => putS a z (.bool true)) ([] : List (Str × D)) <;> rfl
theorem strs_ofB {xs : List D} (h : xs.all nB = true) : xs = (xs.map sOf).map PyData.str := by
  rw [List.map_map]
  conv => lhs; rw [← List.map_id xs]
  refine List.map_congr_left fun x hx => ?_
  have := List.all_eq_true.mp h x hx
  cases x with
  | str z => rfl
  | _ => cases this
end Sn
namespace Sn
open PySem PySem.Spec PyProof.Rows L2 TL
/-- a value that is no text -/
def NoStr (K : PySem.W.Frag) (H : Hp) (v : V) : Prop := ∃ t, TyX K H v t ∧ PySem.W.kitOne K t (.type "str") = some false
/-- a value that may be asked: a text that is not too long, or no text -/
def Arg (K : PySem.W.Frag) (H : Hp) (v : V) : Prop := (∃ z : Str, v = .str z ∧ z.length ≤ 1000) ∨ NoStr K H v
def ans (f : Str → Bool) : V → Bool
  | .str z => f z
  | _ => false
theorem NoStr.ans {K : PySem.W.Frag} {H : Hp} {v : V} (h : NoStr K H v) (f : Str → Bool) : ans f v = false := by
  obtain ⟨t, ty, hk⟩ := h
  cases v with
  | str z =>
    cases ty with
    | base b =>
      cases b
      have e : PySem.W.kitOne K (.type "str") (.type "str") = some true := kit_ty (by decide +kernel)
      rw [e] at hk
      cases hk
  | _ => rfl
theorem tyX_same {K : PySem.W.Frag} {H H' : Hp} {v : V} {t : Value} (s : Same H H') (h : TyX K H v t) : TyX K H' v t := by
  cases h with
  | base b =>
    refine .base ?_
    cases b with
    | non => exact .non
    | bl x => exact .bl x
    | int x => exact .int x
    | str x => exact .str x
    | flt x => exact .flt x
    | lst e => exact .lst (s _ _ e)
    | frz e => exact .frz (s _ _ e)
    | tup e => exact .tup (s _ _ e)
    | dK e => exact .dK (s _ _ e)
    | dT e => exact .dT (s _ _ e)
    | ins e a b c d f => exact .ins (s _ _ e) a b c d f
  | byt b => exact .byt b
  | set e => exact .set (s _ _ e)
  | kList e c => exact .kList e c
  | kTuple e c => exact .kTuple e c
  | kDict e c => exact .kDict e c
  | fTuple e => exact .fTuple (s _ _ e)
  | fDict e => exact .fDict (s _ _ e)
theorem Arg.same {K : PySem.W.Frag} {H H' : Hp} {v : V} (h : Arg K H v) (s : Same H H') : Arg K H' v := by
  rcases h with h | ⟨t, ty, hk⟩
  · exact .inl h
  · exact .inr ⟨t, tyX_same s ty, hk⟩
/-- a question about one value: the answer f of a text, False of any other value -/
def spAsk (K : PySem.W.Frag) (f : Str → Bool) : Sp := fun vs H Q _ => ∃ v : V, vs = [v] ∧ Arg K H v ∧ ∀ H', Same H H' → Q (.bl (ans f v)) H'
theorem len_le {z : Str} (h : z.length ≤ 1000) : z.length ≤ sizeLine := Nat.le_of_lt (small1000 h)
theorem takes {α : Type} {l : List α} {i : Nat} {x : α} (h : l[i]? = some x) : l.take (i + 1) = l.take i ++ [x] := by
  rw [List.take_add_one, h]; rfl
section
variable {P : Program} {w : World} {K : PySem.W.Frag} {mg : Str → Option Value} {base : Heap}
theorem ok_word (T : Txt K mg) : FnOk P w K mg base CX0 1 T.f_is_word T.fd_is_word ["value"] (spAsk K isW) := by
  obtain ⟨t1, g1⟩ := T.c_MOST_SIGNS
  obtain ⟨t2, g2⟩ := T.c_SIGNS
  refine T.F_is_word.ok sc_is_word (fun vs H Q E h => ?_) (fun cdv A outer s H vs Q E hr h => ?_)
  · obtain ⟨v, rfl, _⟩ := h
    rfl
  · obtain ⟨v, rfl, ha, k⟩ := h
    refine ⟨_, pss_one (ps_ret (pe_and (pe_callB call_isi (by rfl) T.z_isinstance (by decide +kernel) (pa_cons (pv 0) (pa_cons (pe_bltn (v := .ty "str") (by rfl) T.z_str (by decide +kernel) rfl) pa_nil)))
      (pe_and (pe_cmpR op_le (pe_callB call_len (by rfl) T.z_len PySem.boot_len (pa_cons (pv 0) pa_nil)) (pe_glob (v := .int 8) rfl g1 ⟨_, rfl⟩) (nomark _))
      (pe_one (pe_callB (cr_all rfl) (by rfl) T.z_all (by decide +kernel) (pa_cons (pe_lc (own := [("sign", 1)]) (g := gName 1) (by rfl) sc_is_word.nd (pi_str (pv 0))
        (blkOk_by (own := [("sign", 1)]) (N := n_is_word) (sc := defScope s_is_word) (by decide +kernel))
        (fun _ _ _ _ _ => pg_name (i := 1) sc_is_word.nd rfl (Or.inl rfl)) (fun _ _ _ _ _ => pts_nil)
        (fun _ _ _ _ _ => pe_cmpR op_in_sign (pv 1) (pe_glob (v := .str sgnS) rfl g2 ⟨_, rfl⟩) rfl)) pa_nil)))))), ?_⟩
    rcases ha with ⟨z, rfl, hz⟩ | hn
    · refine ⟨_, rfl, _, .ty "str", .type "str", .type "str", true, rfl, .ty "str", .base (.str z), kit_ty (by decide +kernel), true, rfl, iteT ?_⟩
      refine ⟨_, rfl, _, z.length, rfl, ⟨len_le hz, rfl⟩, _, _, rfl, rfl, _, rfl, ?_⟩
      by_cases h8 : z.length ≤ 8
      · rw [decide_eq_true (show (z.length : Int) ≤ 8 by omega)]
        refine iteT ?_
        refine ⟨_, rfl, z, rfl, fun D hD => ?_⟩
        refine lc_it walk_str (fun i H1 => H1 = upd H D (.lst (((tl z).take i).map fun c => V.bl (decide (c ∈ tl sgnS))))) rfl (fun _ _ _ _ => trivial) ?_ ?_
        · rintro i x H1 H2 hi rfl ⟨rfl, c, hc, rfl⟩
          refine ⟨rfl, ?_⟩
          have hc2 : (tl z)[i]? = some c := by simpa using hc
          refine ⟨_, rfl, c, sgnS, rfl, rfl, _, upd_same, ?_, ?_⟩
          · rw [List.length_map]
            have : ((tl z).take i).length ≤ z.length := by rw [List.length_take, len_tl]; omega
            exact small1000 (by omega)
          · rw [upd_upd, takes hc2, List.map_append]; rfl
        · rintro H1 rfl
          refine ⟨D, (tl z).map fun c => decide (c ∈ tl sgnS), rfl, .inl (.inl ?_), ?_⟩
          · rw [upd_same, show z.cps.size = (tl z).length by simp, List.take_length, List.map_map]; rfl
          · have e : isW z = (((tl z).map fun c => decide (c ∈ tl sgnS)).all id) := by
              unfold isW
              rw [decide_eq_true h8, Bool.true_and, List.all_map]; rfl
            have q := k _ (same_new (H := H) (p := D) (o := .lst (((tl z).take z.cps.size).map fun c => V.bl (decide (c ∈ tl sgnS)))) hD)
            show Q (.bl _) _
            rw [← e]
            exact q
      · rw [decide_eq_false (show ¬ (z.length : Int) ≤ 8 by omega)]
        refine iteF ?_
        have e : isW z = false := by unfold isW; rw [decide_eq_false h8, Bool.false_and]
        have q := k H (Same.refl H)
        rw [show ans isW (.str z) = isW z from rfl, e] at q
        exact q
    · obtain ⟨t, ty, hk⟩ := id hn
      refine ⟨_, rfl, _, .ty "str", t, .type "str", false, rfl, .ty "str", ty, hk, false, rfl, iteF ?_⟩
      have q := k H (Same.refl H)
      rw [hn.ans] at q
      exact q
theorem ok_name (T : Txt K mg) : FnOk P w K mg base CX0 2 T.f_is_name T.fd_is_name ["value"] (spAsk K isN) := by
  have GW : FnOk P w K mg base CX0 1 T.f_is_word T.fd_is_word ["value"] (spAsk K isW) := ok_word T
  obtain ⟨t1, g1⟩ := T.c_LETTERS
  refine T.F_is_name.ok sc_is_name (fun vs H Q E h => ?_) (fun cdv A outer s H vs Q E hr h => ?_)
  · obtain ⟨v, rfl, _⟩ := h
    rfl
  · obtain ⟨v, rfl, ha, k⟩ := h
    refine ⟨_, pss_one (ps_ret (pe_and (pe_call GW hr rfl T.g_is_word T.F_is_word.kp T.b_is_word .nil pass0 (pa_cons (pv 0) pa_nil))
      (pe_and (pe_cmpR op_in_seq (pe_slice sl_str (pv 0) po_none (po_some pe_int)) (pe_callTy call_tupS (by rfl) T.z_tuple (by decide +kernel) (pa_cons (pe_glob (v := .str letS) rfl g1 ⟨_, rfl⟩) pa_nil)) (by rfl))
      (pe_one (pe_cmpR op_notIn_seq (pv 0) (pe_glob (v := .ref T.a_RESERVED) rfl T.c_RESERVED rfl) (by rfl)))))), ?_⟩
    refine ⟨_, rfl, v, rfl, ha, fun H1 s1 => ⟨_, rfl, ?_⟩⟩
    by_cases hw : ans isW v = true
    · rw [hw]
      refine iteT ?_
      rcases ha with ⟨z, rfl, hz⟩ | hn
      · have hw2 : isW z = true := hw
        refine ⟨_, rfl, _, rfl, z, rfl, len_le hz, letS, rfl, hr.hd, by decide +kernel, fun l hl => ?_⟩
        refine ⟨l, _, rfl, .inr (.inl (.inl upd_same)), rfl, ?_, _, rfl, ?_⟩
        · rw [signs_map]; exact flat_strs _
        · have s2 : Same H (upd H1 l (.tup ((tl letS).map fun c => V.str ⟨#[c]⟩))) := s1.trans (same_new hl)
          have e1 : inV (.str (cutS z none (some 1))) ((tl letS).map fun c => V.str ⟨#[c]⟩) = fstL z := fst_in z
          show if (inV (.str (cutS z none (some 1))) ((tl letS).map fun c => V.str ⟨#[c]⟩)) = true then _ else _
          rw [e1]
          by_cases hf : fstL z = true
          · rw [hf]
            refine iteT ?_
            refine ⟨_, rfl, T.a_RESERVED, resv.map V.str, rfl, .inr (T.q_RESERVED _), rfl, flat_strs _, ?_⟩
            have q := k _ s2
            have e : ans isN (.str z) = !inV (.str z) (resv.map V.str) := by
              show isN z = _
              unfold isN
              rw [hw2, hf, inV_strs]; rfl
            rw [e] at q
            exact q
          · rw [show fstL z = false by simpa using hf]
            refine iteF ?_
            have q := k _ s2
            have e : ans isN (.str z) = false := by
              show isN z = _
              unfold isN
              rw [hw2, show fstL z = false by simpa using hf]; rfl
            rw [e] at q
            exact q
      · rw [hn.ans] at hw
        cases hw
    · rw [show ans isW v = false by simpa using hw]
      refine iteF ?_
      have e : ans isN v = false := by
        cases v with
        | str z =>
          show isN z = _
          unfold isN
          rw [show isW z = false from Bool.eq_false_iff.mpr hw]; rfl
        | _ => rfl
      have q := k H1 s1
      rw [e] at q
      exact q
end
end Sn
namespace Sn
open PySem PySem.Spec PyProof.Rows L2 TL
theorem ll_K05a_0 : ("" : Str).length = 0 := by decide +kernel
theorem ll_K05a_1 : ("built" : Str).length = 5 := by decide +kernel
theorem ll_K05a_2 : ("name" : Str).length = 4 := by decide +kernel
theorem ll_K05a_3 : ("table" : Str).length = 5 := by decide +kernel
theorem ll_K05a_4 : ("text" : Str).length = 4 := by decide +kernel
local macro_rules | `(tactic| infer_instance) => `(tactic| simp only [ty_tt, ty_ts, ty_ti, ty_tl, ty_ss, ty_st])
local macro_rules | `(tactic| infer_instance) => `(tactic| assumption)
local macro_rules | `(tactic| infer_instance) => `(tactic| dsimp only [List.set, wipeE])
local macro_rules | `(tactic| infer_instance) => `(tactic| ((with_reducible refine i_pg ?_ ?_); · assumption))
local macro_rules | `(tactic| infer_instance) => `(tactic| ((with_reducible refine i_askW ?_ ?_); · assumption))
local macro_rules | `(tactic| infer_instance) => `(tactic| ((with_reducible refine i_askN ?_ ?_); · assumption))
local macro_rules | `(tactic| infer_instance) => `(tactic| ((with_reducible refine i_okT ?_ ?_); · assumption))
local macro_rules | `(tactic| infer_instance) => `(tactic| ((with_reducible refine i_cStrF ?_ ?_); · decide +kernel))
local macro_rules | `(tactic| infer_instance) => `(tactic| ((with_reducible refine i_cStrT ?_ ?_); · rfl))
local macro_rules | `(tactic| infer_instance) => `(tactic| ((with_reducible refine i_cGF ?_ ?_); · rfl))
local macro_rules | `(tactic| infer_instance) => `(tactic| ((with_reducible refine i_cGT ?_ ?_); · rfl))
local macro_rules | `(tactic| infer_instance) => `(tactic| ((with_reducible refine i_cIntF ?_ ?_); · rfl))
local macro_rules | `(tactic| infer_instance) => `(tactic| ((with_reducible refine i_cIntT ?_ ?_); · rfl))
local macro_rules | `(tactic| infer_instance) => `(tactic| ((with_reducible apply i_appPop); (focus rfl); (focus rfl)))
local macro_rules | `(tactic| infer_instance) => `(tactic| ((with_reducible apply i_insert); · rfl))
local macro_rules | `(tactic| infer_instance) => `(tactic| ((with_reducible refine i_look2F ?_ ?_); · decide +kernel))
local macro_rules | `(tactic| infer_instance) => `(tactic| ((with_reducible refine i_look2T ?_ ?_); · rfl))
local macro_rules | `(tactic| infer_instance) => `(tactic| ((with_reducible refine i_lookF ?_ ?_); · decide +kernel))
local macro_rules | `(tactic| infer_instance) => `(tactic| ((with_reducible refine i_lookT ?_ ?_); · rfl))
local macro_rules | `(tactic| infer_instance) => `(tactic| ((with_reducible refine i_exdict ?_ ?_); · rfl))
local macro_rules | `(tactic| infer_instance) => `(tactic| ((with_reducible refine i_dget2 ?_ ?_); · rfl))
local macro_rules | `(tactic| infer_instance) => `(tactic| ((with_reducible refine i_dget ?_ ?_); · rfl))
local macro_rules | `(tactic| infer_instance) => `(tactic| ((with_reducible refine i_dispQ ?_ ?_); · decide +kernel))
local macro_rules | `(tactic| infer_instance) => `(tactic| ((with_reducible refine i_le ?_ ?_); · (simp only [List.length_append, List.length_map, List.length_replicate, List.length_cons, List.length_nil, sizeLine_eq]; omega)))
local macro_rules | `(tactic| infer_instance) => `(tactic| ((with_reducible refine i_lt ?_ ?_); · (simp only [List.length_append, List.length_map, List.length_replicate, List.length_cons, List.length_nil, sizeLine_eq]; omega)))
local macro_rules | `(tactic| infer_instance) => `(tactic| ((with_reducible refine i_addL ?_ ?_); · (simp only [List.length_append, List.length_map, List.length_replicate, List.length_cons, List.length_nil, sizeLine_eq]; omega)))
local macro_rules | `(tactic| infer_instance) => `(tactic| ((with_reducible refine i_addS ?_ ?_); · (simp only [len_app, sizeLine_eq, ll_emp, ll_K05a_0, ll_K05a_1, ll_K05a_2, ll_K05a_3, ll_K05a_4]; omega)))
local macro_rules | `(tactic| infer_instance) => `(tactic| ((with_reducible refine i_fmtS ?_ ?_); · (simp only [len_app, sizeLine_eq, ll_emp, ll_K05a_0, ll_K05a_1, ll_K05a_2, ll_K05a_3, ll_K05a_4]; omega)))
local macro_rules | `(tactic| infer_instance) => `(tactic| ((with_reducible refine i_le ?_ ?_); · (simp only [len_app, sizeLine_eq, ll_emp, ll_K05a_0, ll_K05a_1, ll_K05a_2, ll_K05a_3, ll_K05a_4]; omega)))
local macro_rules | `(tactic| infer_instance) => `(tactic| ((with_reducible apply i_ty); · rfl))
local macro_rules | `(tactic| infer_instance) => `(tactic| ((with_reducible refine i_ninTf ?_ ?_ ?_); (focus rfl); (focus (decide +kernel))))
local macro_rules | `(tactic| infer_instance) => `(tactic| ((with_reducible refine i_ninTt ?_ ?_ ?_); (focus rfl); (focus (decide +kernel))))
local macro_rules | `(tactic| infer_instance) => `(tactic| ((with_reducible refine i_inLf ?_ ?_ ?_); (focus rfl); (focus (decide +kernel))))
local macro_rules | `(tactic| infer_instance) => `(tactic| ((with_reducible refine i_inLt ?_ ?_ ?_); (focus rfl); (focus (decide +kernel))))
local macro_rules | `(tactic| infer_instance) => `(tactic| ((with_reducible refine i_inTf ?_ ?_ ?_); (focus rfl); (focus (decide +kernel))))
local macro_rules | `(tactic| infer_instance) => `(tactic| ((with_reducible refine i_inTt ?_ ?_ ?_); (focus rfl); (focus (decide +kernel))))
local macro_rules | `(tactic| infer_instance) => `(tactic| ((with_reducible apply i_extend); · rfl))
local macro_rules | `(tactic| infer_instance) => `(tactic| ((with_reducible apply i_append); · rfl))
local macro_rules | `(tactic| infer_instance) => `(tactic| ((with_reducible refine i_notNf ?_ ?_); · rfl))
local macro_rules | `(tactic| infer_instance) => `(tactic| ((with_reducible refine i_notNt ?_ ?_); · rfl))
local macro_rules | `(tactic| infer_instance) => `(tactic| ((with_reducible refine i_isNf ?_ ?_); · rfl))
local macro_rules | `(tactic| infer_instance) => `(tactic| ((with_reducible refine i_isNt ?_ ?_); · rfl))
local macro_rules | `(tactic| infer_instance) => `(tactic| ((with_reducible apply i_ixL); · rfl))
local macro_rules | `(tactic| infer_instance) => `(tactic| ((with_reducible apply i_ixT); · rfl))
local macro_rules | `(tactic| infer_instance) => `(tactic| ((with_reducible refine i_neF ?_ ?_); · decide +kernel))
local macro_rules | `(tactic| infer_instance) => `(tactic| ((with_reducible refine i_neT ?_ ?_); · rfl))
local macro_rules | `(tactic| infer_instance) => `(tactic| ((with_reducible refine i_neF ?_ ?_); · assumption))
local macro_rules | `(tactic| infer_instance) => `(tactic| ((with_reducible refine i_eqF ?_ ?_); · assumption))
local macro_rules | `(tactic| infer_instance) => `(tactic| ((with_reducible refine i_eqF ?_ ?_); · decide +kernel))
local macro_rules | `(tactic| infer_instance) => `(tactic| ((with_reducible refine i_eqT ?_ ?_); · rfl))
local macro_rules | `(tactic| infer_instance) => `(tactic| ((with_reducible refine i_dNF ?_ ?_); (focus first | decide | omega | rfl | (simp only [List.length_cons, List.length_nil]; omega))))
local macro_rules | `(tactic| infer_instance) => `(tactic| ((with_reducible refine i_dNT ?_ ?_); (focus first | decide | omega | rfl | (simp only [List.length_cons, List.length_nil]; omega))))
local macro_rules | `(tactic| infer_instance) => `(tactic| ((with_reducible refine i_dF ?_ ?_); (focus first | decide | omega | rfl | (simp only [List.length_cons, List.length_nil]; omega))))
local macro_rules | `(tactic| infer_instance) => `(tactic| ((with_reducible refine i_dT ?_ ?_); (focus first | decide | omega | rfl | (simp only [List.length_cons, List.length_nil]; omega))))
local macro_rules | `(tactic| infer_instance) => `(tactic| ((with_reducible apply i_var); · rfl))
local macro_rules | `(tactic| infer_instance) => `(tactic| (with_reducible refine St.go ?_))
def vfB (f : D → Bool) : VF := fun ds r Q => ∃ d, ds = [d] ∧ Pl d ∧ Q (.bool (f d)) r
theorem tyStrNo {K : PySem.W.Frag} {A : Amb} {W : Addr → Prop} {Hs H : Hp} {v : V} {d : D} {n : String} (h : mB K A Hs W H v d) (e : tyN d = some n) (hn : n ≠ "str") : NoStr K H v := by
  refine ⟨_, tyx_of h e, kit_ty ?_⟩
  have hk : kitAllB "str" = true := by decide +kernel
  have := List.all_eq_true.mp hk n (tyN_mem e)
  rw [eq_of_beq this]
  unfold isTy1
  simp [hn]
section
variable {P : Program} {w : World} {K : PySem.W.Frag} {mg : Str → Option Value} {base : Heap}
theorem ask_B {f : Str → Bool} {F : D → Bool} (hF : ∀ d, F d = match d with | .str z => f z | _ => false) {vs : List V} {H : Hp} {Q : VK} {E E' : XK} (h : spV K mF (vfB F) vs H Q E) : spAsk K f vs H Q E' := by
  obtain ⟨A, W, ds, r, Q0, R, hv, ⟨d, rfl, hd, q⟩, k⟩ := h
  have go : ∀ {v : V} {H' : Hp} {d : D}, Same H H' → Q0 d r → Dw K A W H' v d → Q v H' := fun s q h => k _ _ q _ _ W (Ext.same s) (R.same s) h
  rw [hF] at q
  rcases hd.tyS with ⟨n, hn, hs, _, _, _, h3⟩ | ⟨z, rfl, hz⟩
  · cases hv with
    | cons h hv =>
      cases hv
      have ns := tyStrNo (Hs := H) (.inl h) hn hs
      refine ⟨_, rfl, .inr ns, fun H' s => go s ?_ (.bl _)⟩
      rw [ns.ans]
      cases d with
      | str z => exact absurd rfl (h3 z)
      | _ => exact q
  · cases hv with
    | cons h hv =>
      cases hv
      cases h
      exact ⟨_, rfl, .inl ⟨z, rfl, hz⟩, fun H' s => go s q (.bl _)⟩
theorem vok_wordB (T : Txt K mg) : FnOk P w K mg base CX0 1 T.f_is_word T.fd_is_word ["value"] (spV K mF (vfB wB)) := (ok_word T).imp fun vs H Q E h => ask_B (fun d => by cases d <;> rfl) h
theorem vok_nameB (T : Txt K mg) : FnOk P w K mg base CX0 2 T.f_is_name T.fd_is_name ["value"] (spV K mF (vfB nB)) := (ok_name T).imp fun vs H Q E h => ask_B (fun d => by cases d <;> rfl) h
theorem vok_partB (T : Txt K mg) : FnOk P w K mg base CX0 3 T.f_is_part T.fd_is_part ["value"] (spV K mF (vfB partB)) := by
  refine okV (M := mF) (O' := []) T.F_is_part sc_is_part ?_ (fun cdv A outer s H E hr => (vss_cons (vs_if (vw_or (vt_not (vt_val (ve_isi (Ts := "tuple") (by decide +kernel) (by decide +kernel) (by rfl) T.z_isinstance (by rfl) T.z_tuple (ve_var (pv 0)).vb).ve)) (vw_or (vt_cmp (cp_ne hr.units) (ve_len (by rfl) T.z_len (vab_cons (ve_var (pv 0)).vb vab_nil)).vb ve_int.vb) (vw_or1 (vt_not (vt_val (ve_isi (Ts := "str") (by decide +kernel) (by decide +kernel) (by rfl) T.z_isinstance (by rfl) T.z_str (ve_ix (ve_var (pv 0)).vb ve_int.vb).vb).ve))))).vt
        (vss_one (vs_ret ve_bl.ve))
        vss_nil)
      (vss_one (vs_ret (ve_or (ve_and (ve_cmp (cp_eq hr.units) (ve_ix (ve_var (pv 0)).vb ve_int.vb).vb ve_str.vb).ve (ve_one (ve_call (vok_wordB T) (hr.mono (by decide)) (by rfl) T.g_is_word T.F_is_word.kp T.b_is_word (va_cons (ve_ix (ve_var (pv 0)).vb ve_int.vb) va_nil)))) (ve_one (ve_and (ve_cmp (cp_eq hr.units) (ve_ix (ve_var (pv 0)).vb ve_int.vb).vb ve_str.vb).ve (ve_one (ve_call (vok_nameB T) (hr.mono (by decide)) (by rfl) T.g_is_name T.F_is_name.kp T.b_is_name (va_cons (ve_ix (ve_var (pv 0)).vb ve_int.vb) va_nil)))))))))) ?_
  · rintro ds r Q ⟨d, rfl, _⟩
    rfl
  · rintro ds r Q ⟨d, rfl, hd, k⟩
    rw [show startV n_is_part [_] = [some (_)] from rfl]
    repeat infer_instance
    rcases hd.ty with ⟨n, hn, hne, ht⟩ | ⟨xs, rfl, hl, hx⟩
    · refine ⟨_, hn, ?_⟩
      rw [tyT_not hne]
      repeat infer_instance
      cases d <;> first | exact k | cases ht
    · refine ⟨_, rfl, ?_⟩
      rw [tyT_yes]
      repeat infer_instance
      by_cases h2 : xs.length = 2
      · obtain ⟨a, b, rfl⟩ := len_2 h2
        have ha := hx a (by simp)
        have hb := hx b (by simp)
        repeat infer_instance
        rcases ha.tyS with ⟨n, hn, hne, _, _, _, h3⟩ | ⟨z, rfl, hz⟩
        · refine ⟨_, hn, ?_⟩
          rw [tyS_not hne]
          repeat infer_instance
          cases a <;> first | exact k | exact absurd rfl (h3 _)
        · refine ⟨_, rfl, ?_⟩
          rw [tyS_yes]
          repeat infer_instance
          have k : Q (.bool (decide (z = ("text" : Str)) && wB b || decide (z = ("name" : Str)) && nB b)) r := k
          have kN : (decide (z = ("text" : Str)) && wB b) = false → vAndV (vOp (dEq false) (vOp dIx (vVar 0) (vC (PyData.int 0))) (vC (PyData.str ("name" : Str)))) (vCall (vfB nB) (vCons (vOp dIx (vVar 0) (vC (PyData.int 1))) vNil)) [some (PyData.tuple [PyData.str z, b])] r fun d r1 => Q d r1 := fun e => by
            rw [e, Bool.false_or] at k
            repeat infer_instance
            refine i_eqS ?_
            repeat infer_instance
            refine i_ite (fun h => ?_) (fun h => ?_)
            · rw [h, Bool.true_and] at k
              repeat infer_instance
              exact ⟨b, rfl, hb, k⟩
            · rw [h, Bool.false_and] at k
              exact k
          refine i_eqS ?_
          repeat infer_instance
          refine i_ite (fun h => ?_) (fun h => ?_)
          · repeat infer_instance
            refine ⟨b, rfl, hb, ?_⟩
            refine ⟨_, rfl, ?_⟩
            refine i_ite (fun h2 => ?_) (fun h2 => ?_)
            · rw [h, h2] at k
              exact k
            · exact kN (by rw [h, h2]; rfl)
          · refine ⟨_, rfl, ?_⟩
            rw [if_neg (by decide)]
            exact kN (by rw [h]; rfl)
      · rw [decide_eq_false (by omega)]
        repeat infer_instance
        rwa [partB_len h2] at k
theorem vok_exprB (T : Txt K mg) : FnOk P w K mg base CX0 4 T.f_is_expr T.fd_is_expr ["value"] (spV K mF (vfB exprB)) := by
  refine okV (M := mF) (O' := []) T.F_is_expr sc_is_expr ?_ (fun cdv A outer s H E hr => (vss_one (vs_ret (ve_and (ve_isi (Ts := "tuple") (by decide +kernel) (by decide +kernel) (by rfl) T.z_isinstance (by rfl) T.z_tuple (ve_var (pv 0)).vb).ve (ve_and (ve_chain (cp_le) (cp_le) ve_int.vb (ve_len (by rfl) T.z_len (vab_cons (ve_var (pv 0)).vb vab_nil)).vb (ve_gI T.c_MOST_PARTS).vb).ve (ve_one (ve_all rfl (by rfl) T.z_all (vab_cons (vl_lc (own := [("part", 1)]) (t := (.nm 1)) rfl sc_is_expr.nd (vi_seq (ve_var (pv 0))) (blkOk_by (N := n_is_expr) (sc := defScope s_is_expr) (by decide +kernel)) (fun _ _ _ _ _ => (pg_name (i := 1) sc_is_expr.nd rfl (Or.inl rfl))) (fun _ _ _ _ _ => vpts_nil) (fun _ _ _ _ _ => (ve_call (vok_partB T) (hr.mono (by decide)) (by rfl) T.g_is_part T.F_is_part.kp T.b_is_part (va_cons (ve_var (pv 1)) va_nil)))).vb vab_nil)).ve)))))) ?_
  · rintro ds r Q ⟨d, rfl, _⟩
    rfl
  · rintro ds r Q ⟨d, rfl, hd, k⟩
    rw [show startV n_is_expr [_] = [some (_), none] from rfl]
    have e : (isTup d && exprB d) = exprB d := by cases d <;> rfl
    refine i_retP (pb_and (b := exprB d) (pb_isT (pv_var rfl) hd) fun h => ?_) (by rw [e]; exact k)
    obtain ⟨xs, rfl, hl, hx⟩ := hd.tup_of h
    refine pb_eq (pb_and (pb_chain pv_c (pv_lenT (pv_var rfl)) pv_c) fun _ => pb_all (pv_var rfl) (by rw [sizeLine_eq]; omega) fun d hm => pv_call1 (pv_var rfl) fun Q q => ⟨d, rfl, hx d hm, q⟩) ?_
    show _ = (decide (1 ≤ xs.length) && decide (xs.length ≤ 4) && xs.all partB)
    rw [show decide ((1 : Int) ≤ (xs.length : Int)) = decide (1 ≤ xs.length) from decide_eq_decide.mpr (by omega), show decide ((xs.length : Int) ≤ (4 : Int)) = decide (xs.length ≤ 4) from decide_eq_decide.mpr (by omega)]
theorem vok_givenB (T : Txt K mg) : FnOk P w K mg base CX0 5 T.f_are_given T.fd_are_given ["value"] (spV K mF (vfB givenB)) := by
  refine okV (M := mF) (O' := []) T.F_are_given sc_are_given ?_ (fun cdv A outer s H E hr => (vss_one (vs_ret (ve_and (ve_isi (Ts := "tuple") (by decide +kernel) (by decide +kernel) (by rfl) T.z_isinstance (by rfl) T.z_tuple (ve_var (pv 0)).vb).ve (ve_and (ve_cmp (cp_le) (ve_len (by rfl) T.z_len (vab_cons (ve_var (pv 0)).vb vab_nil)).vb (ve_gI T.c_MOST_GIVEN).vb).ve (ve_one (ve_all rfl (by rfl) T.z_all (vab_cons (vl_lc (own := [("expr", 1)]) (t := (.nm 1)) rfl sc_are_given.nd (vi_seq (ve_var (pv 0))) (blkOk_by (N := n_are_given) (sc := defScope s_are_given) (by decide +kernel)) (fun _ _ _ _ _ => (pg_name (i := 1) sc_are_given.nd rfl (Or.inl rfl))) (fun _ _ _ _ _ => vpts_nil) (fun _ _ _ _ _ => (ve_call (vok_exprB T) (hr.mono (by decide)) (by rfl) T.g_is_expr T.F_is_expr.kp T.b_is_expr (va_cons (ve_var (pv 1)) va_nil)))).vb vab_nil)).ve)))))) ?_
  · rintro ds r Q ⟨d, rfl, _⟩
    rfl
  · rintro ds r Q ⟨d, rfl, hd, k⟩
    rw [show startV n_are_given [_] = [some (_), none] from rfl]
    have e : (isTup d && givenB d) = givenB d := by cases d <;> rfl
    refine i_retP (pb_and (b := givenB d) (pb_isT (pv_var rfl) hd) fun h => ?_) (by rw [e]; exact k)
    obtain ⟨xs, rfl, hl, hx⟩ := hd.tup_of h
    refine pb_eq (pb_and (pb_i0 (pv_lenT (pv_var rfl)) pv_c) fun _ => pb_all (pv_var rfl) (by rw [sizeLine_eq]; omega) fun d hm => pv_call1 (pv_var rfl) fun Q q => ⟨d, rfl, hx d hm, q⟩) ?_
    show _ = (decide (xs.length ≤ 3) && xs.all exprB)
    rw [show decide ((xs.length : Int) ≤ (3 : Int)) = decide (xs.length ≤ 3) from decide_eq_decide.mpr (by omega)]
theorem vok_tgtB (T : Txt K mg) : FnOk P w K mg base CX0 5 T.f_is_target T.fd_is_target ["value"] (spV K mF (vfB tgtB)) := by
  refine okV (M := mF) (O' := []) T.F_is_target sc_is_target ?_ (fun cdv A outer s H E hr => (vss_cons (vs_if (vw_or (vt_not (vt_val (ve_isi (Ts := "tuple") (by decide +kernel) (by decide +kernel) (by rfl) T.z_isinstance (by rfl) T.z_tuple (ve_var (pv 0)).vb).ve)) (vw_or (vt_cmp (cp_lt) (ve_len (by rfl) T.z_len (vab_cons (ve_var (pv 0)).vb vab_nil)).vb ve_int.vb) (vw_or1 (vt_not (vt_val (ve_isi (Ts := "str") (by decide +kernel) (by decide +kernel) (by rfl) T.z_isinstance (by rfl) T.z_str (ve_ix (ve_var (pv 0)).vb ve_int.vb).vb).ve))))).vt
        (vss_one (vs_ret ve_bl.ve))
        vss_nil)
      (vss_cons (vs_if (vt_cmp (cp_eq hr.units) (ve_ix (ve_var (pv 0)).vb ve_int.vb).vb ve_str.vb)
        (vss_one (vs_ret (ve_and (ve_cmp (cp_eq hr.units) (ve_len (by rfl) T.z_len (vab_cons (ve_var (pv 0)).vb vab_nil)).vb ve_int.vb).ve (ve_and (ve_call (vok_nameB T) (hr.mono (by decide)) (by rfl) T.g_is_name T.F_is_name.kp T.b_is_name (va_cons (ve_ix (ve_var (pv 0)).vb ve_int.vb) va_nil)) (ve_one (ve_call (vok_exprB T) (hr.mono (by decide)) (by rfl) T.g_is_expr T.F_is_expr.kp T.b_is_expr (va_cons (ve_ix (ve_var (pv 0)).vb ve_int.vb) va_nil)))))))
        vss_nil)
      (vss_cons (vs_if (vt_cmp (cp_ne hr.units) (ve_len (by rfl) T.z_len (vab_cons (ve_var (pv 0)).vb vab_nil)).vb ve_int.vb)
        (vss_one (vs_ret ve_bl.ve))
        vss_nil)
      (vss_one (vs_ret (ve_or (ve_and (ve_cmp (cp_eq hr.units) (ve_ix (ve_var (pv 0)).vb ve_int.vb).vb ve_str.vb).ve (ve_one (ve_call (vok_nameB T) (hr.mono (by decide)) (by rfl) T.g_is_name T.F_is_name.kp T.b_is_name (va_cons (ve_ix (ve_var (pv 0)).vb ve_int.vb) va_nil)))) (ve_one (ve_and (ve_cmp (cp_eq hr.units) (ve_ix (ve_var (pv 0)).vb ve_int.vb).vb ve_str.vb).ve (ve_one (ve_call (vok_exprB T) (hr.mono (by decide)) (by rfl) T.g_is_expr T.F_is_expr.kp T.b_is_expr (va_cons (ve_ix (ve_var (pv 0)).vb ve_int.vb) va_nil)))))))))))) ?_
  · rintro ds r Q ⟨d, rfl, _⟩
    rfl
  · rintro ds r Q ⟨d, rfl, hd, k⟩
    rw [show startV n_is_target [_] = [some (_)] from rfl]
    refine i_sqIf (pt_or (b := !tupS 2 d) (pt_not (pt_b (pb_isT (pv_var rfl) hd))) fun h => ?_) (fun h => ?_) (fun h => ?_)
    · obtain ⟨xs, rfl, hl, hx⟩ := hd.tup_of (by simpa using h)
      refine pt_eq (pt_or (b := !tupS 2 (.tuple xs)) (pt_b (pb_cmpI (pv_lenT (pv_var rfl)) pv_c)) fun h => ?_) ?_
      · have h : ¬ (xs.length : Int) < 2 := of_decide_eq_false h
        rcases xs with _ | ⟨a, _ | ⟨b, t⟩⟩
        · exact absurd (by decide) h
        · exact absurd (show (1 : Int) < 2 by decide) h
        refine pt_eq (pt_not (pt_b (pb_isS (pv_ixT (pv_var rfl) at_0) (hx a (by simp))))) ?_
        cases a <;> rfl
      · rcases xs with _ | ⟨a, _ | ⟨b, t⟩⟩
        · rfl
        · cases a <;> rfl
        · rw [show decide (((a :: b :: t).length : Int) < 2) = false from decide_eq_false (by simp; omega)]
          rfl
    · refine i_retP pv_c ?_
      have e : tgtB d = false := by
        cases d with
        | tuple xs =>
          rcases xs with _ | ⟨a, _ | ⟨b, t⟩⟩
          · rfl
          · cases a <;> rfl
          · cases a with
            | str z => cases h
            | _ => rfl
        | _ => rfl
      rw [e] at k
      exact k
    · obtain ⟨z, b, t, rfl⟩ := tupS2 (d := d) (by
        cases e : isTup d with
        | true => rw [e] at h; simpa using h
        | false => rw [e] at h; cases h)
      have hb : Pl b := hd.mem (by simp)
      clear h
      show vSeq _ _ _ _ _
      refine i_sqIf (pt_b (pb_eqS (pv_ixT (pv_var rfl) at_0))) (fun h => ?_) (fun h => ?_)
      · have h : z = "table" := of_decide_eq_true h
        subst h
        rcases t with _ | ⟨c, _ | ⟨u, t⟩⟩
        · exact i_retP (pb_and (b := false) (pb_eqI (pv_lenT (pv_var rfl)) pv_c) fun h => absurd h (by show ¬ decide ((2 : Int) = 3) = true; decide)) k
        · have hc : Pl c := hd.mem (by simp)
          exact i_retP (pb_and (pb_eqI (pv_lenT (pv_var rfl)) pv_c) fun _ => pb_and (pv_call1 (pv_ixT (pv_var rfl) at_1) fun Q q => ⟨b, rfl, hb, q⟩) fun _ => pv_call1 (pv_ixT (pv_var rfl) at_2) fun Q q => ⟨c, rfl, hc, q⟩) k
        · have e : decide (((PyData.str "table" :: b :: c :: u :: t).length : Int) = 3) = false := decide_eq_false (by simp; omega)
          exact i_retP (pb_and (b := false) (pb_eqI (pv_lenT (pv_var rfl)) pv_c) fun h => absurd h (by rw [e]; decide)) (by rw [e]; exact k)
      · have h : z ≠ "table" := of_decide_eq_false h
        show vSeq _ _ _ _ _
        refine i_sqIf (pt_b (pb_neI (pv_lenT (pv_var rfl)) pv_c)) (fun h2 => ?_) (fun h2 => ?_)
        · refine i_retP pv_c ?_
          rcases t with _ | ⟨c, _ | ⟨u, t⟩⟩
          · cases h2
          · have k : Q (.bool (decide (z = ("table" : Str)) && nB b && exprB c)) r := k
            rw [decide_eq_false h] at k
            exact k
          · exact k
        · have h2 : ((PyData.str z :: b :: t).length : Int) = 2 := by simpa using h2
          rcases t with _ | ⟨c, t⟩
          · exact i_retP (pb_or (pb_and (pb_eqS (pv_ixT (pv_var rfl) at_0)) fun _ => pv_call1 (pv_ixT (pv_var rfl) at_1) fun Q q => ⟨b, rfl, hb, q⟩) fun _ => pb_and (pb_eqS (pv_ixT (pv_var rfl) at_0)) fun _ => pv_call1 (pv_ixT (pv_var rfl) at_1) fun Q q => ⟨b, rfl, hb, q⟩) k
          · simp at h2
            omega
end
end Sn
namespace Sn
open PySem PySem.Spec PyProof.Rows L2 TL
theorem ll_K05b_0 : ("" : Str).length = 0 := by decide +kernel
theorem ll_K05b_1 : ("ask" : Str).length = 3 := by decide +kernel
theorem ll_K05b_2 : ("call" : Str).length = 4 := by decide +kernel
theorem ll_K05b_3 : ("each" : Str).length = 4 := by decide +kernel
theorem ll_K05b_4 : ("fail" : Str).length = 4 := by decide +kernel
theorem ll_K05b_5 : ("if" : Str).length = 2 := by decide +kernel
theorem ll_K05b_6 : ("let" : Str).length = 3 := by decide +kernel
theorem ll_K05b_7 : ("return" : Str).length = 6 := by decide +kernel
theorem ll_K05b_8 : ("there" : Str).length = 5 := by decide +kernel
theorem ll_K05b_9 : ("try" : Str).length = 3 := by decide +kernel
local macro_rules | `(tactic| infer_instance) => `(tactic| simp only [ty_tt, ty_ts, ty_ti, ty_tl, ty_ss, ty_st])
local macro_rules | `(tactic| infer_instance) => `(tactic| assumption)
local macro_rules | `(tactic| infer_instance) => `(tactic| dsimp only [List.set, wipeE])
local macro_rules | `(tactic| infer_instance) => `(tactic| ((with_reducible refine i_pg ?_ ?_); · assumption))
local macro_rules | `(tactic| infer_instance) => `(tactic| ((with_reducible refine i_askW ?_ ?_); · assumption))
local macro_rules | `(tactic| infer_instance) => `(tactic| ((with_reducible refine i_askN ?_ ?_); · assumption))
local macro_rules | `(tactic| infer_instance) => `(tactic| ((with_reducible refine i_okT ?_ ?_); · assumption))
local macro_rules | `(tactic| infer_instance) => `(tactic| ((with_reducible refine i_cStrF ?_ ?_); · decide +kernel))
local macro_rules | `(tactic| infer_instance) => `(tactic| ((with_reducible refine i_cStrT ?_ ?_); · rfl))
local macro_rules | `(tactic| infer_instance) => `(tactic| ((with_reducible refine i_cGF ?_ ?_); · rfl))
local macro_rules | `(tactic| infer_instance) => `(tactic| ((with_reducible refine i_cGT ?_ ?_); · rfl))
local macro_rules | `(tactic| infer_instance) => `(tactic| ((with_reducible refine i_cIntF ?_ ?_); · rfl))
local macro_rules | `(tactic| infer_instance) => `(tactic| ((with_reducible refine i_cIntT ?_ ?_); · rfl))
local macro_rules | `(tactic| infer_instance) => `(tactic| ((with_reducible apply i_appPop); (focus rfl); (focus rfl)))
local macro_rules | `(tactic| infer_instance) => `(tactic| ((with_reducible apply i_insert); · rfl))
local macro_rules | `(tactic| infer_instance) => `(tactic| ((with_reducible refine i_look2F ?_ ?_); · decide +kernel))
local macro_rules | `(tactic| infer_instance) => `(tactic| ((with_reducible refine i_look2T ?_ ?_); · rfl))
local macro_rules | `(tactic| infer_instance) => `(tactic| ((with_reducible refine i_lookF ?_ ?_); · decide +kernel))
local macro_rules | `(tactic| infer_instance) => `(tactic| ((with_reducible refine i_lookT ?_ ?_); · rfl))
local macro_rules | `(tactic| infer_instance) => `(tactic| ((with_reducible refine i_exdict ?_ ?_); · rfl))
local macro_rules | `(tactic| infer_instance) => `(tactic| ((with_reducible refine i_dget2 ?_ ?_); · rfl))
local macro_rules | `(tactic| infer_instance) => `(tactic| ((with_reducible refine i_dget ?_ ?_); · rfl))
local macro_rules | `(tactic| infer_instance) => `(tactic| ((with_reducible refine i_dispQ ?_ ?_); · decide +kernel))
local macro_rules | `(tactic| infer_instance) => `(tactic| ((with_reducible refine i_le ?_ ?_); · (simp only [List.length_append, List.length_map, List.length_replicate, List.length_cons, List.length_nil, sizeLine_eq]; omega)))
local macro_rules | `(tactic| infer_instance) => `(tactic| ((with_reducible refine i_lt ?_ ?_); · (simp only [List.length_append, List.length_map, List.length_replicate, List.length_cons, List.length_nil, sizeLine_eq]; omega)))
local macro_rules | `(tactic| infer_instance) => `(tactic| ((with_reducible refine i_addL ?_ ?_); · (simp only [List.length_append, List.length_map, List.length_replicate, List.length_cons, List.length_nil, sizeLine_eq]; omega)))
local macro_rules | `(tactic| infer_instance) => `(tactic| ((with_reducible refine i_addS ?_ ?_); · (simp only [len_app, sizeLine_eq, ll_emp, ll_K05b_0, ll_K05b_1, ll_K05b_2, ll_K05b_3, ll_K05b_4, ll_K05b_5, ll_K05b_6, ll_K05b_7, ll_K05b_8, ll_K05b_9]; omega)))
local macro_rules | `(tactic| infer_instance) => `(tactic| ((with_reducible refine i_fmtS ?_ ?_); · (simp only [len_app, sizeLine_eq, ll_emp, ll_K05b_0, ll_K05b_1, ll_K05b_2, ll_K05b_3, ll_K05b_4, ll_K05b_5, ll_K05b_6, ll_K05b_7, ll_K05b_8, ll_K05b_9]; omega)))
local macro_rules | `(tactic| infer_instance) => `(tactic| ((with_reducible refine i_le ?_ ?_); · (simp only [len_app, sizeLine_eq, ll_emp, ll_K05b_0, ll_K05b_1, ll_K05b_2, ll_K05b_3, ll_K05b_4, ll_K05b_5, ll_K05b_6, ll_K05b_7, ll_K05b_8, ll_K05b_9]; omega)))
local macro_rules | `(tactic| infer_instance) => `(tactic| ((with_reducible apply i_ty); · rfl))
local macro_rules | `(tactic| infer_instance) => `(tactic| ((with_reducible refine i_ninTf ?_ ?_ ?_); (focus rfl); (focus (decide +kernel))))
local macro_rules | `(tactic| infer_instance) => `(tactic| ((with_reducible refine i_ninTt ?_ ?_ ?_); (focus rfl); (focus (decide +kernel))))
local macro_rules | `(tactic| infer_instance) => `(tactic| ((with_reducible refine i_inLf ?_ ?_ ?_); (focus rfl); (focus (decide +kernel))))
local macro_rules | `(tactic| infer_instance) => `(tactic| ((with_reducible refine i_inLt ?_ ?_ ?_); (focus rfl); (focus (decide +kernel))))
local macro_rules | `(tactic| infer_instance) => `(tactic| ((with_reducible refine i_inTf ?_ ?_ ?_); (focus rfl); (focus (decide +kernel))))
local macro_rules | `(tactic| infer_instance) => `(tactic| ((with_reducible refine i_inTt ?_ ?_ ?_); (focus rfl); (focus (decide +kernel))))
local macro_rules | `(tactic| infer_instance) => `(tactic| ((with_reducible apply i_extend); · rfl))
local macro_rules | `(tactic| infer_instance) => `(tactic| ((with_reducible apply i_append); · rfl))
local macro_rules | `(tactic| infer_instance) => `(tactic| ((with_reducible refine i_notNf ?_ ?_); · rfl))
local macro_rules | `(tactic| infer_instance) => `(tactic| ((with_reducible refine i_notNt ?_ ?_); · rfl))
local macro_rules | `(tactic| infer_instance) => `(tactic| ((with_reducible refine i_isNf ?_ ?_); · rfl))
local macro_rules | `(tactic| infer_instance) => `(tactic| ((with_reducible refine i_isNt ?_ ?_); · rfl))
local macro_rules | `(tactic| infer_instance) => `(tactic| ((with_reducible apply i_ixL); · rfl))
local macro_rules | `(tactic| infer_instance) => `(tactic| ((with_reducible apply i_ixT); · rfl))
local macro_rules | `(tactic| infer_instance) => `(tactic| ((with_reducible refine i_neF ?_ ?_); · decide +kernel))
local macro_rules | `(tactic| infer_instance) => `(tactic| ((with_reducible refine i_neT ?_ ?_); · rfl))
local macro_rules | `(tactic| infer_instance) => `(tactic| ((with_reducible refine i_neF ?_ ?_); · assumption))
local macro_rules | `(tactic| infer_instance) => `(tactic| ((with_reducible refine i_eqF ?_ ?_); · assumption))
local macro_rules | `(tactic| infer_instance) => `(tactic| ((with_reducible refine i_eqF ?_ ?_); · decide +kernel))
local macro_rules | `(tactic| infer_instance) => `(tactic| ((with_reducible refine i_eqT ?_ ?_); · rfl))
local macro_rules | `(tactic| infer_instance) => `(tactic| ((with_reducible refine i_dNF ?_ ?_); (focus first | decide | omega | rfl | (simp only [List.length_cons, List.length_nil]; omega))))
local macro_rules | `(tactic| infer_instance) => `(tactic| ((with_reducible refine i_dNT ?_ ?_); (focus first | decide | omega | rfl | (simp only [List.length_cons, List.length_nil]; omega))))
local macro_rules | `(tactic| infer_instance) => `(tactic| ((with_reducible refine i_dF ?_ ?_); (focus first | decide | omega | rfl | (simp only [List.length_cons, List.length_nil]; omega))))
local macro_rules | `(tactic| infer_instance) => `(tactic| ((with_reducible refine i_dT ?_ ?_); (focus first | decide | omega | rfl | (simp only [List.length_cons, List.length_nil]; omega))))
local macro_rules | `(tactic| infer_instance) => `(tactic| ((with_reducible apply i_var); · rfl))
local macro_rules | `(tactic| infer_instance) => `(tactic| (with_reducible refine St.go ?_))
def vfBl (f : D → Bool) (lv : Nat) : VF := fun ds r Q => ∃ d, ds = [d, .int (lv : Nat)] ∧ Pl d ∧ Q (.bool (f d)) r
theorem fnOk_no5 {P : Program} {w : World} {K : PySem.W.Frag} {mg : Str → Option Value} {base : Heap} {CX : CXT} {k : Nat} {f : Addr} {fd : FuncData} {ps : List Str} {sp : Sp} (h : ∀ vs H Q E, ¬ sp vs H Q E) : FnOk P w K mg base CX k f fd ps sp :=
  ⟨fun vs H Q E q => absurd q (h _ _ _ _), fun A fr s H ar us xs Q E _ _ _ _ e => absurd e (h _ _ _ _)⟩
section
variable {P : Program} {w : World} {K : PySem.W.Frag} {mg : Str → Option Value} {base : Heap}
theorem bl_false {n : Nat} {d : D} (h : isTup d = false) : blkB n d = false := by
  cases n with
  | zero => rfl
  | succ n => cases d with
    | tuple xs => cases h
    | _ => rfl
theorem vok_blkB0 (T : Txt K mg) {m : Nat} (hm : 5 ≤ m) : FnOk P w K mg base CX0 (m + 1) T.f_is_block T.fd_is_block ["value", "level"] (spV K mF (vfBl (blkB 0) 5)) := by
  have GS : FnOk P w K mg base CX0 m T.f_is_statement T.fd_is_statement ["value", "level"] (spV K mF fun _ _ _ => False) := fnOk_no5 fun vs H Q E h => by
    obtain ⟨_, _, _, _, _, _, _, h, _⟩ := h
    exact h
  refine okV (M := mF) (O' := []) T.F_is_block sc_is_block ?_ (fun cdv A outer s H E hr => (vss_cons (vs_if (vw_or (vt_not (vt_val (ve_isi (Ts := "tuple") (by decide +kernel) (by decide +kernel) (by rfl) T.z_isinstance (by rfl) T.z_tuple (ve_var (pv 0)).vb).ve)) (vw_or (vt_cmp (cp_eq hr.units) (ve_len (by rfl) T.z_len (vab_cons (ve_var (pv 0)).vb vab_nil)).vb ve_int.vb) (vw_or1 (vt_cmp (cp_gt) (ve_var (pv 1)).vb (ve_gI T.c_MOST_LEVELS).vb)))).vt
        (vss_one (vs_ret ve_bl.ve))
        vss_nil)
      (vss_one (vs_ret (ve_all rfl (by rfl) T.z_all (vab_cons (vl_lc (own := [("row", 2)]) (t := (.nm 2)) rfl sc_is_block.nd (vi_seq (ve_var (pv 0))) (blkOk_by (N := n_is_block) (sc := defScope s_is_block) (by decide +kernel)) (fun _ _ _ _ _ => (pg_name (i := 2) sc_is_block.nd rfl (Or.inl rfl))) (fun _ _ _ _ _ => vpts_nil) (fun _ _ _ _ _ => (ve_call GS (hr.mono (by omega)) (by rfl) T.g_is_statement T.F_is_statement.kp T.b_is_statement (va_cons (ve_var (pv 2)) (va_cons (ve_var (pv 1)) va_nil))))).vb vab_nil)).ve)))) ?_
  · rintro ds r Q ⟨d, rfl, _⟩
    rfl
  · rintro ds r Q ⟨d, rfl, hd, k⟩
    rw [show startV n_is_block [_, .int ((5 : Nat) : Int)] = [some (_), some (.int ((5 : Nat) : Int)), none] from rfl]
    refine i_sqIf (pt_eq (b := true) (pt_or (b := true) (pt_not (pt_b (pb_isT (pv_var rfl) hd))) fun h => ?_) (by simp)) (fun h => i_retP pv_c k) (fun h => by cases h)
    obtain ⟨xs, rfl, hl, hx⟩ := hd.tup_of (by simpa using h)
    exact pt_eq (pt_or (b := true) (pt_b (pb_eqI (pv_lenT (pv_var rfl)) pv_c)) fun h => pt_eq (pt_b (pb_i0 (g := fun i j => decide (j < i)) (pv_var rfl) pv_c)) (by decide)) (by simp)
theorem vok_blkB (T : Txt K mg) {n lv m : Nat} (hm : 5 ≤ m) (hn : lv + n = 4) (GS : FnOk P w K mg base CX0 m T.f_is_statement T.fd_is_statement ["value", "level"] (spV K mF (vfBl (stmB (blkB n)) lv))) : FnOk P w K mg base CX0 (m + 1) T.f_is_block T.fd_is_block ["value", "level"] (spV K mF (vfBl (blkB (n + 1)) lv)) := by
  refine okV (M := mF) (O' := []) T.F_is_block sc_is_block ?_ (fun cdv A outer s H E hr => (vss_cons (vs_if (vw_or (vt_not (vt_val (ve_isi (Ts := "tuple") (by decide +kernel) (by decide +kernel) (by rfl) T.z_isinstance (by rfl) T.z_tuple (ve_var (pv 0)).vb).ve)) (vw_or (vt_cmp (cp_eq hr.units) (ve_len (by rfl) T.z_len (vab_cons (ve_var (pv 0)).vb vab_nil)).vb ve_int.vb) (vw_or1 (vt_cmp (cp_gt) (ve_var (pv 1)).vb (ve_gI T.c_MOST_LEVELS).vb)))).vt
        (vss_one (vs_ret ve_bl.ve))
        vss_nil)
      (vss_one (vs_ret (ve_all rfl (by rfl) T.z_all (vab_cons (vl_lc (own := [("row", 2)]) (t := (.nm 2)) rfl sc_is_block.nd (vi_seq (ve_var (pv 0))) (blkOk_by (N := n_is_block) (sc := defScope s_is_block) (by decide +kernel)) (fun _ _ _ _ _ => (pg_name (i := 2) sc_is_block.nd rfl (Or.inl rfl))) (fun _ _ _ _ _ => vpts_nil) (fun _ _ _ _ _ => (ve_call GS (hr.mono (by omega)) (by rfl) T.g_is_statement T.F_is_statement.kp T.b_is_statement (va_cons (ve_var (pv 2)) (va_cons (ve_var (pv 1)) va_nil))))).vb vab_nil)).ve)))) ?_
  · rintro ds r Q ⟨d, rfl, _⟩
    rfl
  · rintro ds r Q ⟨d, rfl, hd, k⟩
    rw [show startV n_is_block [_, .int (lv : Nat)] = [some (_), some (.int (lv : Nat)), none] from rfl]
    refine i_sqIf (pt_or (b := lenE d) (pt_not (pt_b (pb_isT (pv_var rfl) hd))) fun h => ?_) (fun h => ?_) (fun h => ?_)
    · obtain ⟨xs, rfl, hl, hx⟩ := hd.tup_of (by simpa using h)
      refine pt_eq (pt_or (b := false) (pt_b (pb_eqI (pv_lenT (pv_var rfl)) pv_c)) fun h => pt_eq (pt_b (pb_i0 (pv_var rfl) pv_c)) (decide_eq_false (by omega))) ?_
      rw [lenE_T, Bool.or_false]
    · have e : blkB (n + 1) d = false := by
        cases d with
        | tuple xs =>
          cases xs with
          | nil => rfl
          | cons x xs => cases h
        | _ => rfl
      rw [e] at k
      exact i_retP pv_c k
    · cases d with
      | tuple xs =>
        have hd2 := hd
        cases hd2 with
        | tup hl hx =>
          cases xs with
          | nil => cases h
          | cons x xs => exact i_retP (pb_all (pv_var rfl) (by rw [sizeLine_eq]; omega) fun d hm => pv_call2 (pv_var rfl) (pv_var rfl) fun Q q => ⟨d, rfl, hx d hm, q⟩) k
      | _ => cases h
theorem vok_othB (T : Txt K mg) {lv m : Nat} {B : D → Bool} (hB : ∀ d, isTup d = false → B d = false) (hm : 5 ≤ m) (GB : FnOk P w K mg base CX0 m T.f_is_block T.fd_is_block ["value", "level"] (spV K mF (vfBl B lv))) : FnOk P w K mg base CX0 (m + 1) T.f_is_other T.fd_is_other ["value", "level"] (spV K mF (vfBl (othB B) lv)) := by
  refine okV (M := mF) (O' := []) T.F_is_other sc_is_other ?_ (fun cdv A outer s H E hr => (vss_one (vs_ret (ve_and (ve_isi (Ts := "tuple") (by decide +kernel) (by decide +kernel) (by rfl) T.z_isinstance (by rfl) T.z_tuple (ve_var (pv 0)).vb).ve (ve_one (ve_or (ve_cmp (cp_eq hr.units) (ve_len (by rfl) T.z_len (vab_cons (ve_var (pv 0)).vb vab_nil)).vb ve_int.vb).ve (ve_one (ve_call GB (hr.mono (by omega)) (by rfl) T.g_is_block T.F_is_block.kp T.b_is_block (va_cons (ve_var (pv 0)) (va_cons (ve_var (pv 1)) va_nil)))))))))) ?_
  · rintro ds r Q ⟨d, rfl, _⟩
    rfl
  · rintro ds r Q ⟨d, rfl, hd, k⟩
    rw [show startV n_is_other [_, .int (lv : Nat)] = [some (_), some (.int (lv : Nat))] from rfl]
    have e : (isTup d && othB B d) = othB B d := by
      cases h : isTup d with
      | true => rfl
      | false => cases d with
        | tuple xs => cases h
        | _ => exact (hB _ h).symm
    refine i_retP (pb_and (b := othB B d) (pb_isT (pv_var rfl) hd) fun h => ?_) (by rw [e]; exact k)
    obtain ⟨xs, rfl, hl, hx⟩ := hd.tup_of h
    refine pb_eq (pb_or (b := B (.tuple xs)) (pb_eqI (pv_lenT (pv_var rfl)) pv_c) fun _ => pv_call2 (pv_var rfl) (pv_var rfl) fun Q q => ⟨_, rfl, hd, q⟩) ?_
    cases xs with
    | nil => rfl
    | cons x xs =>
      rw [decide_eq_false (by simp; omega)]
      rfl
theorem vok_stmB (T : Txt K mg) {lv m : Nat} {B : D → Bool} (hm : 5 ≤ m) (GB : FnOk P w K mg base CX0 m T.f_is_block T.fd_is_block ["value", "level"] (spV K mF (vfBl B (lv + 1)))) (GO : FnOk P w K mg base CX0 (m + 1) T.f_is_other T.fd_is_other ["value", "level"] (spV K mF (vfBl (othB B) (lv + 1)))) : FnOk P w K mg base CX0 (m + 2) T.f_is_statement T.fd_is_statement ["value", "level"] (spV K mF (vfBl (stmB B) lv)) := by
  refine okV (M := mF) (O' := []) T.F_is_statement sc_is_statement ?_ (fun cdv A outer s H E hr => (vss_cons (vs_if (vw_or (vt_not (vt_val (ve_isi (Ts := "tuple") (by decide +kernel) (by decide +kernel) (by rfl) T.z_isinstance (by rfl) T.z_tuple (ve_var (pv 0)).vb).ve)) (vw_or (vt_cmp (cp_eq hr.units) (ve_len (by rfl) T.z_len (vab_cons (ve_var (pv 0)).vb vab_nil)).vb ve_int.vb) (vw_or1 (vt_not (vt_val (ve_isi (Ts := "str") (by decide +kernel) (by decide +kernel) (by rfl) T.z_isinstance (by rfl) T.z_str (ve_ix (ve_var (pv 0)).vb ve_int.vb).vb).ve))))).vt
        (vss_one (vs_ret ve_bl.ve))
        vss_nil)
      (vss_cons (vs_asgStar rfl (ve_var (pv 0)) (pg_name (i := 2) sc_is_statement.nd rfl (Or.inl rfl)) (pg_name (i := 3) sc_is_statement.nd rfl (Or.inl rfl)))
      (vss_cons (vs_match (ve_len (by rfl) T.z_len (vab_cons (ve_var (pv 3)).vb vab_nil)).ve (vcs_int
        (vss_one (vs_ret (ve_cmp (cp_eq hr.units) (ve_var (pv 2)).vb ve_str.vb).ve))
        (vcs_int
        (vss_one (vs_ret (ve_or (ve_and (ve_cmp (cp_eq hr.units) (ve_var (pv 2)).vb ve_str.vb).ve (ve_one (ve_call (vok_nameB T) (hr.mono (by omega)) (by rfl) T.g_is_name T.F_is_name.kp T.b_is_name (va_cons (ve_ix (ve_var (pv 3)).vb ve_int.vb) va_nil)))) (ve_one (ve_and (ve_cmp (cp_eq hr.units) (ve_var (pv 2)).vb ve_str.vb).ve (ve_one (ve_call (vok_exprB T) (hr.mono (by omega)) (by rfl) T.g_is_expr T.F_is_expr.kp T.b_is_expr (va_cons (ve_ix (ve_var (pv 3)).vb ve_int.vb) va_nil))))))))
        (vcs_intG (vt_cmp (cp_eq hr.units) (ve_var (pv 2)).vb ve_str.vb)
        (vss_one (vs_ret (ve_and (ve_call (vok_nameB T) (hr.mono (by omega)) (by rfl) T.g_is_name T.F_is_name.kp T.b_is_name (va_cons (ve_ix (ve_var (pv 3)).vb ve_int.vb) va_nil)) (ve_one (ve_call (vok_exprB T) (hr.mono (by omega)) (by rfl) T.g_is_expr T.F_is_expr.kp T.b_is_expr (va_cons (ve_ix (ve_var (pv 3)).vb ve_int.vb) va_nil))))))
        (vcs_intG (vt_cmp (cp_eq hr.units) (ve_var (pv 2)).vb ve_str.vb)
        (vss_one (vs_ret (ve_and (ve_call GB (hr.mono (by omega)) (by rfl) T.g_is_block T.F_is_block.kp T.b_is_block (va_cons (ve_ix (ve_var (pv 3)).vb ve_int.vb) (va_cons (ve_add (ve_var (pv 1)).vb ve_int.vb).ve va_nil))) (ve_one (ve_call GB (hr.mono (by omega)) (by rfl) T.g_is_block T.F_is_block.kp T.b_is_block (va_cons (ve_ix (ve_var (pv 3)).vb ve_int.vb) (va_cons (ve_add (ve_var (pv 1)).vb ve_int.vb).ve va_nil)))))))
        (vcs_intG (vt_cmp (cp_eq hr.units) (ve_var (pv 2)).vb ve_str.vb)
        (vss_one (vs_ret (ve_and (ve_or (ve_cmp cp_isN (ve_ix (ve_var (pv 3)).vb ve_int.vb).vb ve_non.vb).ve (ve_one (ve_call (vok_nameB T) (hr.mono (by omega)) (by rfl) T.g_is_name T.F_is_name.kp T.b_is_name (va_cons (ve_ix (ve_var (pv 3)).vb ve_int.vb) va_nil)))) (ve_and (ve_call (vok_tgtB T) (hr.mono (by omega)) (by rfl) T.g_is_target T.F_is_target.kp T.b_is_target (va_cons (ve_ix (ve_var (pv 3)).vb ve_int.vb) va_nil)) (ve_one (ve_call (vok_givenB T) (hr.mono (by omega)) (by rfl) T.g_are_given T.F_are_given.kp T.b_are_given (va_cons (ve_ix (ve_var (pv 3)).vb ve_int.vb) va_nil)))))))
        (vcs_intG (vt_cmp (cp_eq hr.units) (ve_var (pv 2)).vb ve_str.vb)
        (vss_one (vs_ret (ve_and (ve_call (vok_nameB T) (hr.mono (by omega)) (by rfl) T.g_is_name T.F_is_name.kp T.b_is_name (va_cons (ve_ix (ve_var (pv 3)).vb ve_int.vb) va_nil)) (ve_and (ve_call (vok_wordB T) (hr.mono (by omega)) (by rfl) T.g_is_word T.F_is_word.kp T.b_is_word (va_cons (ve_ix (ve_var (pv 3)).vb ve_int.vb) va_nil)) (ve_one (ve_call GB (hr.mono (by omega)) (by rfl) T.g_is_block T.F_is_block.kp T.b_is_block (va_cons (ve_ix (ve_var (pv 3)).vb ve_int.vb) (va_cons (ve_add (ve_var (pv 1)).vb ve_int.vb).ve va_nil))))))))
        (vcs_intG (vt_cmp (cp_eq hr.units) (ve_var (pv 2)).vb ve_str.vb)
        (vss_one (vs_ret (ve_and (ve_call (vok_exprB T) (hr.mono (by omega)) (by rfl) T.g_is_expr T.F_is_expr.kp T.b_is_expr (va_cons (ve_ix (ve_var (pv 3)).vb ve_int.vb) va_nil)) (ve_and (ve_call GB (hr.mono (by omega)) (by rfl) T.g_is_block T.F_is_block.kp T.b_is_block (va_cons (ve_ix (ve_var (pv 3)).vb ve_int.vb) (va_cons (ve_add (ve_var (pv 1)).vb ve_int.vb).ve va_nil))) (ve_one (ve_call GO (hr.mono (by omega)) (by rfl) T.g_is_other T.F_is_other.kp T.b_is_other (va_cons (ve_ix (ve_var (pv 3)).vb ve_int.vb) (va_cons (ve_add (ve_var (pv 1)).vb ve_int.vb).ve va_nil))))))))
        (vcs_intG (vt_cmp (cp_eq hr.units) (ve_var (pv 2)).vb ve_str.vb)
        (vss_cons (vs_if (vw_or (vt_not (vt_val (ve_call (vok_exprB T) (hr.mono (by omega)) (by rfl) T.g_is_expr T.F_is_expr.kp T.b_is_expr (va_cons (ve_ix (ve_var (pv 3)).vb ve_int.vb) va_nil)))) (vw_or1 (vt_not (vt_val (ve_call (vok_wordB T) (hr.mono (by omega)) (by rfl) T.g_is_word T.F_is_word.kp T.b_is_word (va_cons (ve_ix (ve_var (pv 3)).vb ve_int.vb) va_nil)))))).vt
        (vss_one (vs_ret ve_bl.ve))
        vss_nil)
      (vss_one (vs_ret (ve_and (ve_call GB (hr.mono (by omega)) (by rfl) T.g_is_block T.F_is_block.kp T.b_is_block (va_cons (ve_ix (ve_var (pv 3)).vb ve_int.vb) (va_cons (ve_add (ve_var (pv 1)).vb ve_int.vb).ve va_nil))) (ve_one (ve_call GO (hr.mono (by omega)) (by rfl) T.g_is_other T.F_is_other.kp T.b_is_other (va_cons (ve_ix (ve_var (pv 3)).vb ve_int.vb) (va_cons (ve_add (ve_var (pv 1)).vb ve_int.vb).ve va_nil))))))))
        vcs_nil)))))))))
      (vss_one (vs_ret ve_bl.ve)))))) ?_
  · rintro ds r Q ⟨d, rfl, _⟩
    rfl
  · rintro ds r Q ⟨d, rfl, hd, k⟩
    rw [show startV n_is_statement [_, .int (lv : Nat)] = [some (_), some (.int (lv : Nat)), none, none] from rfl]
    refine i_sqIf (pt_or (b := !tupS 1 d) (pt_not (pt_b (pb_isT (pv_var rfl) hd))) fun h => ?_) (fun h => ?_) (fun h => ?_)
    · obtain ⟨xs, rfl, hl, hx⟩ := hd.tup_of (by simpa using h)
      refine pt_eq (pt_or (b := !tupS 1 (.tuple xs)) (pt_b (pb_eqI (pv_lenT (pv_var rfl)) pv_c)) fun h => ?_) ?_
      · rcases xs with _ | ⟨a, t⟩
        · cases h
        refine pt_eq (pt_not (pt_b (pb_isS (pv_ixT (pv_var rfl) at_0) (hx a (by simp))))) ?_
        cases a <;> first | rfl | exact (by simp [tupS, isTx])
      · rcases xs with _ | ⟨a, t⟩
        · rfl
        · rw [decide_eq_false (by simp; omega)]
          rfl
    · refine i_retP pv_c ?_
      have e : stmB B d = false := by
        cases d with
        | tuple xs =>
          rcases xs with _ | ⟨a, t⟩
          · rfl
          · cases a with
            | str z => simp [isTup, tupS] at h
            | _ => rfl
        | _ => rfl
      rw [e] at k
      exact k
    · obtain ⟨z, t, rfl⟩ := tupS1 (d := d) (by
        cases e : isTup d with
        | true => rw [e] at h; simpa using h
        | false => rw [e] at h; cases h)
      clear h
      show vSeq _ _ _ _ _
      refine i_asgStar (pv_var rfl) ?_
      show vSeq _ _ _ _ _
      refine i_matchP (pv_lenL (pv_var rfl)) ?_
      have cb : ∀ {ρ : En} {va : VT} {x : D}, ρ[1]? = some (some (.int (lv : Nat))) → x ∈ (PyData.str z :: t) → PV va ρ r x → PB (vCall (vfBl B (lv + 1)) (vCons va (vCons (vOp dAdd (vVar 1) (vC (PyData.int 1))) vNil))) ρ r (B x) := fun h1 hm ha => pv_call2 ha (pv_op (pv_var h1) pv_c fun R q => i_addI q) fun Q q => ⟨_, rfl, hd.mem hm, q⟩
      have co : ∀ {ρ : En} {va : VT} {x : D}, ρ[1]? = some (some (.int (lv : Nat))) → x ∈ (PyData.str z :: t) → PV va ρ r x → PB (vCall (vfBl (othB B) (lv + 1)) (vCons va (vCons (vOp dAdd (vVar 1) (vC (PyData.int 1))) vNil))) ρ r (othB B x) := fun h1 hm ha => pv_call2 ha (pv_op (pv_var h1) pv_c fun R q => i_addI q) fun Q q => ⟨_, rfl, hd.mem hm, q⟩
      have c1 : ∀ {ρ : En} {va : VT} {x : D} {f : D → Bool}, x ∈ (PyData.str z :: t) → PV va ρ r x → PB (vCall (vfB f) (vCons va vNil)) ρ r (f x) := fun hm ha => pv_call1 ha fun Q q => ⟨_, rfl, hd.mem hm, q⟩
      rcases t with _ | ⟨x, _ | ⟨y, _ | ⟨u, _ | ⟨w, _ | ⟨v, t⟩⟩⟩⟩⟩
      · exact i_vcY rfl (i_retP (pb_eqS (pv_var rfl)) k)
      · refine i_vcN (show (1 : Int) ≠ 0 by decide) ?_
        exact i_vcY rfl (i_retP (pb_or (pb_and (pb_eqS (pv_var rfl)) fun _ => c1 (by simp) (pv_ixL (pv_var rfl) at_0)) fun _ => pb_and (pb_eqS (pv_var rfl)) fun _ => c1 (by simp) (pv_ixL (pv_var rfl) at_0)) k)
      · refine i_vcN (show (2 : Int) ≠ 0 by decide) ?_
        refine i_vcN (show (2 : Int) ≠ 1 by decide) ?_
        have k : Q (.bool (if z = "let" then nB x && exprB y else if z = "try" then B x && B y else false)) r := k
        refine i_vgY rfl (pt_b (pb_eqS (pv_var rfl))) (fun h => ?_) (fun h => ?_)
        · rw [if_pos (of_decide_eq_true h)] at k
          exact i_retP (pb_and (c1 (by simp) (pv_ixL (pv_var rfl) at_0)) fun _ => c1 (by simp) (pv_ixL (pv_var rfl) at_1)) k
        rw [if_neg (of_decide_eq_false h)] at k
        refine i_vgY rfl (pt_b (pb_eqS (pv_var rfl))) (fun h => ?_) (fun h => ?_)
        · rw [if_pos (of_decide_eq_true h)] at k
          exact i_retP (pb_and (cb rfl (by simp) (pv_ixL (pv_var rfl) at_0)) fun _ => cb rfl (by simp) (pv_ixL (pv_var rfl) at_1)) k
        rw [if_neg (of_decide_eq_false h)] at k
        refine i_vgN (show (2 : Int) ≠ 3 by decide) ?_
        refine i_vgN (show (2 : Int) ≠ 3 by decide) ?_
        refine i_vgN (show (2 : Int) ≠ 3 by decide) ?_
        refine i_vgN (show (2 : Int) ≠ 4 by decide) ?_
        exact k
      · refine i_vcN (show (3 : Int) ≠ 0 by decide) ?_
        refine i_vcN (show (3 : Int) ≠ 1 by decide) ?_
        refine i_vgN (show (3 : Int) ≠ 2 by decide) ?_
        refine i_vgN (show (3 : Int) ≠ 2 by decide) ?_
        have k : Q (.bool (if z = "call" then (isNoD x || nB x) && (tgtB y && givenB u) else if z = "each" then nB x && (wB y && B u) else if z = "there" then exprB x && (B y && othB B u) else false)) r := k
        refine i_vgY rfl (pt_b (pb_eqS (pv_var rfl))) (fun h => ?_) (fun h => ?_)
        · rw [if_pos (of_decide_eq_true h)] at k
          exact i_retP (pb_and (pb_or (pb_isNone (pv_ixL (pv_var rfl) at_0)) fun _ => c1 (by simp) (pv_ixL (pv_var rfl) at_0)) fun _ => pb_and (c1 (by simp) (pv_ixL (pv_var rfl) at_1)) fun _ => c1 (by simp) (pv_ixL (pv_var rfl) at_2)) k
        rw [if_neg (of_decide_eq_false h)] at k
        refine i_vgY rfl (pt_b (pb_eqS (pv_var rfl))) (fun h => ?_) (fun h => ?_)
        · rw [if_pos (of_decide_eq_true h)] at k
          exact i_retP (pb_and (c1 (by simp) (pv_ixL (pv_var rfl) at_0)) fun _ => pb_and (c1 (by simp) (pv_ixL (pv_var rfl) at_1)) fun _ => cb rfl (by simp) (pv_ixL (pv_var rfl) at_2)) k
        rw [if_neg (of_decide_eq_false h)] at k
        refine i_vgY rfl (pt_b (pb_eqS (pv_var rfl))) (fun h => ?_) (fun h => ?_)
        · rw [if_pos (of_decide_eq_true h)] at k
          exact i_retP (pb_and (c1 (by simp) (pv_ixL (pv_var rfl) at_0)) fun _ => pb_and (cb rfl (by simp) (pv_ixL (pv_var rfl) at_1)) fun _ => co rfl (by simp) (pv_ixL (pv_var rfl) at_2)) k
        rw [if_neg (of_decide_eq_false h)] at k
        refine i_vgN (show (3 : Int) ≠ 4 by decide) ?_
        exact k
      · refine i_vcN (show (4 : Int) ≠ 0 by decide) ?_
        refine i_vcN (show (4 : Int) ≠ 1 by decide) ?_
        refine i_vgN (show (4 : Int) ≠ 2 by decide) ?_
        refine i_vgN (show (4 : Int) ≠ 2 by decide) ?_
        refine i_vgN (show (4 : Int) ≠ 3 by decide) ?_
        refine i_vgN (show (4 : Int) ≠ 3 by decide) ?_
        refine i_vgN (show (4 : Int) ≠ 3 by decide) ?_
        have k : Q (.bool (if z = "if" then (if (!exprB x || !wB y) = true then false else B u && othB B w) else false)) r := k
        refine i_vgY rfl (pt_b (pb_eqS (pv_var rfl))) (fun h => ?_) (fun h => ?_)
        · rw [if_pos (of_decide_eq_true h)] at k
          refine i_sqIf (pt_or (pt_not (pt_b (c1 (by simp) (pv_ixL (pv_var rfl) at_0)))) fun _ => pt_not (pt_b (c1 (by simp) (pv_ixL (pv_var rfl) at_1)))) (fun h => ?_) (fun h => ?_)
          · rw [if_pos h] at k
            exact i_retP pv_c k
          · rw [if_neg (by rw [h]; decide)] at k
            exact i_retP (pb_and (cb rfl (by simp) (pv_ixL (pv_var rfl) at_2)) fun _ => co rfl (by simp) (pv_ixL (pv_var rfl) at_3)) k
        rw [if_neg (of_decide_eq_false h)] at k
        exact k
      · refine i_vcN (by simp; omega) ?_
        refine i_vcN (by simp; omega) ?_
        refine i_vgN (by simp; omega) ?_
        refine i_vgN (by simp; omega) ?_
        refine i_vgN (by simp; omega) ?_
        refine i_vgN (by simp; omega) ?_
        refine i_vgN (by simp; omega) ?_
        refine i_vgN (by simp; omega) ?_
        exact k
theorem vok_blkB4 (T : Txt K mg) : FnOk P w K mg base CX0 18 T.f_is_block T.fd_is_block ["value", "level"] (spV K mF (vfBl (blkB 4) 1)) := by
  have B0 := vok_blkB0 (P := P) (w := w) (base := base) T (m := 5) (by decide)
  have B1 := vok_blkB (n := 0) (lv := 4) T (by decide) rfl (vok_stmB T (by decide) B0 (vok_othB T (fun d h => bl_false h) (by decide) B0))
  have B2 := vok_blkB (n := 1) (lv := 3) T (by decide) rfl (vok_stmB T (by decide) B1 (vok_othB T (fun d h => bl_false h) (by decide) B1))
  have B3 := vok_blkB (n := 2) (lv := 2) T (by decide) rfl (vok_stmB T (by decide) B2 (vok_othB T (fun d h => bl_false h) (by decide) B2))
  exact vok_blkB (n := 3) (lv := 1) T (by decide) rfl (vok_stmB T (by decide) B3 (vok_othB T (fun d h => bl_false h) (by decide) B3))
end
end Sn
namespace Sn
open PySem PySem.Spec PyProof.Rows L2 TL
theorem ll_K05c_0 : ("" : Str).length = 0 := by decide +kernel
theorem ll_K05c_1 : ("def" : Str).length = 3 := by decide +kernel
theorem ll_K05c_2 : ("entry" : Str).length = 5 := by decide +kernel
theorem ll_K05c_3 : ("offer" : Str).length = 5 := by decide +kernel
theorem ll_K05c_4 : ("set" : Str).length = 3 := by decide +kernel
theorem ll_K05c_5 : ("star" : Str).length = 4 := by decide +kernel
theorem ll_K05c_6 : ("table" : Str).length = 5 := by decide +kernel
theorem ll_K05c_7 : ("use" : Str).length = 3 := by decide +kernel
local macro_rules | `(tactic| infer_instance) => `(tactic| simp only [ty_tt, ty_ts, ty_ti, ty_tl, ty_ss, ty_st])
local macro_rules | `(tactic| infer_instance) => `(tactic| assumption)
local macro_rules | `(tactic| infer_instance) => `(tactic| dsimp only [List.set, wipeE])
local macro_rules | `(tactic| infer_instance) => `(tactic| ((with_reducible refine i_pg ?_ ?_); · assumption))
local macro_rules | `(tactic| infer_instance) => `(tactic| ((with_reducible refine i_askW ?_ ?_); · assumption))
local macro_rules | `(tactic| infer_instance) => `(tactic| ((with_reducible refine i_askN ?_ ?_); · assumption))
local macro_rules | `(tactic| infer_instance) => `(tactic| ((with_reducible refine i_okT ?_ ?_); · assumption))
local macro_rules | `(tactic| infer_instance) => `(tactic| ((with_reducible refine i_cStrF ?_ ?_); · decide +kernel))
local macro_rules | `(tactic| infer_instance) => `(tactic| ((with_reducible refine i_cStrT ?_ ?_); · rfl))
local macro_rules | `(tactic| infer_instance) => `(tactic| ((with_reducible refine i_cGF ?_ ?_); · rfl))
local macro_rules | `(tactic| infer_instance) => `(tactic| ((with_reducible refine i_cGT ?_ ?_); · rfl))
local macro_rules | `(tactic| infer_instance) => `(tactic| ((with_reducible refine i_cIntF ?_ ?_); · rfl))
local macro_rules | `(tactic| infer_instance) => `(tactic| ((with_reducible refine i_cIntT ?_ ?_); · rfl))
local macro_rules | `(tactic| infer_instance) => `(tactic| ((with_reducible apply i_appPop); (focus rfl); (focus rfl)))
local macro_rules | `(tactic| infer_instance) => `(tactic| ((with_reducible apply i_insert); · rfl))
local macro_rules | `(tactic| infer_instance) => `(tactic| ((with_reducible refine i_look2F ?_ ?_); · decide +kernel))
local macro_rules | `(tactic| infer_instance) => `(tactic| ((with_reducible refine i_look2T ?_ ?_); · rfl))
local macro_rules | `(tactic| infer_instance) => `(tactic| ((with_reducible refine i_lookF ?_ ?_); · decide +kernel))
local macro_rules | `(tactic| infer_instance) => `(tactic| ((with_reducible refine i_lookT ?_ ?_); · rfl))
local macro_rules | `(tactic| infer_instance) => `(tactic| ((with_reducible refine i_exdict ?_ ?_); · rfl))
local macro_rules | `(tactic| infer_instance) => `(tactic| ((with_reducible refine i_dget2 ?_ ?_); · rfl))
local macro_rules | `(tactic| infer_instance) => `(tactic| ((with_reducible refine i_dget ?_ ?_); · rfl))
local macro_rules | `(tactic| infer_instance) => `(tactic| ((with_reducible refine i_dispQ ?_ ?_); · decide +kernel))
local macro_rules | `(tactic| infer_instance) => `(tactic| ((with_reducible refine i_le ?_ ?_); · (simp only [List.length_append, List.length_map, List.length_replicate, List.length_cons, List.length_nil, sizeLine_eq]; omega)))
local macro_rules | `(tactic| infer_instance) => `(tactic| ((with_reducible refine i_lt ?_ ?_); · (simp only [List.length_append, List.length_map, List.length_replicate, List.length_cons, List.length_nil, sizeLine_eq]; omega)))
local macro_rules | `(tactic| infer_instance) => `(tactic| ((with_reducible refine i_addL ?_ ?_); · (simp only [List.length_append, List.length_map, List.length_replicate, List.length_cons, List.length_nil, sizeLine_eq]; omega)))
local macro_rules | `(tactic| infer_instance) => `(tactic| ((with_reducible refine i_addS ?_ ?_); · (simp only [len_app, sizeLine_eq, ll_emp, ll_K05c_0, ll_K05c_1, ll_K05c_2, ll_K05c_3, ll_K05c_4, ll_K05c_5, ll_K05c_6, ll_K05c_7]; omega)))
local macro_rules | `(tactic| infer_instance) => `(tactic| ((with_reducible refine i_fmtS ?_ ?_); · (simp only [len_app, sizeLine_eq, ll_emp, ll_K05c_0, ll_K05c_1, ll_K05c_2, ll_K05c_3, ll_K05c_4, ll_K05c_5, ll_K05c_6, ll_K05c_7]; omega)))
local macro_rules | `(tactic| infer_instance) => `(tactic| ((with_reducible refine i_le ?_ ?_); · (simp only [len_app, sizeLine_eq, ll_emp, ll_K05c_0, ll_K05c_1, ll_K05c_2, ll_K05c_3, ll_K05c_4, ll_K05c_5, ll_K05c_6, ll_K05c_7]; omega)))
local macro_rules | `(tactic| infer_instance) => `(tactic| ((with_reducible apply i_ty); · rfl))
local macro_rules | `(tactic| infer_instance) => `(tactic| ((with_reducible refine i_ninTf ?_ ?_ ?_); (focus rfl); (focus (decide +kernel))))
local macro_rules | `(tactic| infer_instance) => `(tactic| ((with_reducible refine i_ninTt ?_ ?_ ?_); (focus rfl); (focus (decide +kernel))))
local macro_rules | `(tactic| infer_instance) => `(tactic| ((with_reducible refine i_inLf ?_ ?_ ?_); (focus rfl); (focus (decide +kernel))))
local macro_rules | `(tactic| infer_instance) => `(tactic| ((with_reducible refine i_inLt ?_ ?_ ?_); (focus rfl); (focus (decide +kernel))))
local macro_rules | `(tactic| infer_instance) => `(tactic| ((with_reducible refine i_inTf ?_ ?_ ?_); (focus rfl); (focus (decide +kernel))))
local macro_rules | `(tactic| infer_instance) => `(tactic| ((with_reducible refine i_inTt ?_ ?_ ?_); (focus rfl); (focus (decide +kernel))))
local macro_rules | `(tactic| infer_instance) => `(tactic| ((with_reducible apply i_extend); · rfl))
local macro_rules | `(tactic| infer_instance) => `(tactic| ((with_reducible apply i_append); · rfl))
local macro_rules | `(tactic| infer_instance) => `(tactic| ((with_reducible refine i_notNf ?_ ?_); · rfl))
local macro_rules | `(tactic| infer_instance) => `(tactic| ((with_reducible refine i_notNt ?_ ?_); · rfl))
local macro_rules | `(tactic| infer_instance) => `(tactic| ((with_reducible refine i_isNf ?_ ?_); · rfl))
local macro_rules | `(tactic| infer_instance) => `(tactic| ((with_reducible refine i_isNt ?_ ?_); · rfl))
local macro_rules | `(tactic| infer_instance) => `(tactic| ((with_reducible apply i_ixL); · rfl))
local macro_rules | `(tactic| infer_instance) => `(tactic| ((with_reducible apply i_ixT); · rfl))
local macro_rules | `(tactic| infer_instance) => `(tactic| ((with_reducible refine i_neF ?_ ?_); · decide +kernel))
local macro_rules | `(tactic| infer_instance) => `(tactic| ((with_reducible refine i_neT ?_ ?_); · rfl))
local macro_rules | `(tactic| infer_instance) => `(tactic| ((with_reducible refine i_neF ?_ ?_); · assumption))
local macro_rules | `(tactic| infer_instance) => `(tactic| ((with_reducible refine i_eqF ?_ ?_); · assumption))
local macro_rules | `(tactic| infer_instance) => `(tactic| ((with_reducible refine i_eqF ?_ ?_); · decide +kernel))
local macro_rules | `(tactic| infer_instance) => `(tactic| ((with_reducible refine i_eqT ?_ ?_); · rfl))
local macro_rules | `(tactic| infer_instance) => `(tactic| ((with_reducible refine i_dNF ?_ ?_); (focus first | decide | omega | rfl | (simp only [List.length_cons, List.length_nil]; omega))))
local macro_rules | `(tactic| infer_instance) => `(tactic| ((with_reducible refine i_dNT ?_ ?_); (focus first | decide | omega | rfl | (simp only [List.length_cons, List.length_nil]; omega))))
local macro_rules | `(tactic| infer_instance) => `(tactic| ((with_reducible refine i_dF ?_ ?_); (focus first | decide | omega | rfl | (simp only [List.length_cons, List.length_nil]; omega))))
local macro_rules | `(tactic| infer_instance) => `(tactic| ((with_reducible refine i_dT ?_ ?_); (focus first | decide | omega | rfl | (simp only [List.length_cons, List.length_nil]; omega))))
local macro_rules | `(tactic| infer_instance) => `(tactic| ((with_reducible apply i_var); · rfl))
local macro_rules | `(tactic| infer_instance) => `(tactic| (with_reducible refine St.go ?_))
def vfDiffB : VF := fun ds r Q => ∃ zs : List Str, (ds = [.list (zs.map .str)] ∨ ds = [.tuple (zs.map .str)]) ∧ zs.length ≤ 1000 ∧ Q (.bool (decide zs.Nodup)) r
section
variable {P : Program} {w : World} {K : PySem.W.Frag} {mg : Str → Option Value} {base : Heap}
theorem vok_diffB (T : Txt K mg) : FnOk P w K mg base CX0 1 T.f_are_different T.fd_are_different ["values"] (spV K mF vfDiffB) := by
  refine okV (M := mF) (O' := []) T.F_are_different sc_are_different ?_ (fun cdv A outer s H E hr => (vss_one (vs_ret (ve_cmp (cp_eq hr.units) (ve_len (by rfl) T.z_len (vab_cons (vl_dc (own := [("value", 1)]) (t := (.nm 1)) rfl sc_are_different.nd (vi_seqB (ve_var (pv 0)).vb) (blkOk_by (N := n_are_different) (sc := defScope s_are_different) (by decide +kernel)) (fun _ _ _ _ _ => (pg_name (i := 1) sc_are_different.nd rfl (Or.inl rfl))) (fun _ _ _ _ _ => vpts_nil) (fun _ _ _ _ _ => (ve_var (pv 1))) (fun _ _ _ _ _ => ve_bl.ve)).vb vab_nil)).vb (ve_len (by rfl) T.z_len (vab_cons (ve_var (pv 0)).vb vab_nil)).vb).ve))) ?_
  · rintro ds r Q ⟨zs, rfl | rfl, _⟩ <;> rfl
  · rintro ds r Q ⟨zs, hds, hz, k⟩
    have go : ∀ {r' : Rs} {d : D}, (∀ R : List D → Prop, R (zs.map .str) → dSeq d R) → PV (vDc (List.map (fun x => x.snd) [(("value" : Str), 1)]) (vSeqI (vVar 0)) (Tgt.nm 1) vYes (vVar 1) (vC (PyData.bool true))) [some d, none] r' (.dict ((zs.map PyData.str).foldl (fun a d => putD a (.inr (sOf d)) (.bool true)) [])) := fun {r' d} hs Q q => by
      refine ⟨d, rfl, hs _ ⟨by rw [List.length_map, sizeLine_eq]; omega, i_dcGo (fun d => .inr (sOf d)) (fun _ => .bool true) (fun x hx R E q => ?_) q⟩⟩
      obtain ⟨z, _, rfl⟩ := List.mem_map.mp hx
      refine i_bind1 ?_
      dsimp only [vYes]
      rw [if_pos rfl]
      exact ⟨_, rfl, .inr z, rfl, q⟩
    rcases hds with rfl | rfl
    · rw [show startV n_are_different [.list (zs.map .str)] = [some (.list (zs.map .str)), none] from rfl]
      exact i_retP (pb_eqI (pv_cb1 (go fun R q => q) fun R q => ⟨dist_tok zs, q⟩) (pv_lenL (pv_var rfl))) (by rw [List.length_map, dist_all]; exact k)
    · rw [show startV n_are_different [.tuple (zs.map .str)] = [some (.tuple (zs.map .str)), none] from rfl]
      exact i_retP (pb_eqI (pv_cb1 (go fun R q => q) fun R q => ⟨dist_tok zs, q⟩) (pv_lenT (pv_var rfl))) (by rw [List.length_map, dist_all]; exact k)
def vfNm : VF := fun ds r Q => ∃ (d : D) (lo hi : Nat), ds = [d, .int (lo : Nat), .int (hi : Nat)] ∧ Pl d ∧ Q (.bool (namesB lo hi d)) r
theorem vok_namesB (T : Txt K mg) : FnOk P w K mg base CX0 3 T.f_are_names T.fd_are_names ["value", "least", "most"] (spV K mF vfNm) := by
  refine okV (M := mF) (O' := []) T.F_are_names sc_are_names ?_ (fun cdv A outer s H E hr => (vss_cons (vs_if (vw_or (vt_not (vt_val (ve_isi (Ts := "tuple") (by decide +kernel) (by decide +kernel) (by rfl) T.z_isinstance (by rfl) T.z_tuple (ve_var (pv 0)).vb).ve)) (vw_or1 (vt_not (vt_chain (cp_le) (cp_le) (ve_var (pv 1)).vb (ve_len (by rfl) T.z_len (vab_cons (ve_var (pv 0)).vb vab_nil)).vb (ve_var (pv 2)).vb)))).vt
        (vss_one (vs_ret ve_bl.ve))
        vss_nil)
      (vss_one (vs_ret (ve_and (ve_all rfl (by rfl) T.z_all (vab_cons (vl_lc (own := [("name", 3)]) (t := (.nm 3)) rfl sc_are_names.nd (vi_seq (ve_var (pv 0))) (blkOk_by (N := n_are_names) (sc := defScope s_are_names) (by decide +kernel)) (fun _ _ _ _ _ => (pg_name (i := 3) sc_are_names.nd rfl (Or.inl rfl))) (fun _ _ _ _ _ => vpts_nil) (fun _ _ _ _ _ => (ve_call (vok_nameB T) (hr.mono (by decide)) (by rfl) T.g_is_name T.F_is_name.kp T.b_is_name (va_cons (ve_var (pv 3)) va_nil)))).vb vab_nil)).ve (ve_one (ve_call (vok_diffB T) (hr.mono (by decide)) (by rfl) T.g_are_different T.F_are_different.kp T.b_are_different (va_cons (ve_var (pv 0)) va_nil)))))))) ?_
  · rintro ds r Q ⟨d, lo, hi, rfl, _⟩
    rfl
  · rintro ds r Q ⟨d, lo, hi, rfl, hd, k⟩
    rw [show startV n_are_names [_, .int (lo : Nat), .int (hi : Nat)] = [some (_), some (.int (lo : Nat)), some (.int (hi : Nat)), none] from rfl]
    refine i_sqIf (pt_or (b := !lenIn lo hi d) (pt_not (pt_b (pb_isT (pv_var rfl) hd))) fun h => ?_) (fun h => ?_) (fun h => ?_)
    · obtain ⟨xs, rfl, hl, hx⟩ := hd.tup_of (by simpa using h)
      exact pt_eq (pt_not (pt_b (pb_chain (pv_var rfl) (pv_lenT (pv_var rfl)) (pv_var rfl)))) (by rw [lenIn_T])
    · have e : namesB lo hi d = false := by
        cases d with
        | tuple xs =>
          have h : (!lenIn lo hi (.tuple xs)) = true := h
          show (lenIn lo hi (.tuple xs) && xs.all nB && decide (xs.map sOf).Nodup) = false
          rw [show lenIn lo hi (.tuple xs) = false by simpa using h]
          rfl
        | _ => rfl
      rw [e] at k
      exact i_retP pv_c k
    · obtain ⟨xs, rfl, hl, hx⟩ := hd.tup_of (by cases e : isTup d with
        | true => rfl
        | false => rw [e] at h; cases h)
      have h : lenIn lo hi (.tuple xs) = true := by simpa [isTup] using h
      have k : Q (.bool (lenIn lo hi (.tuple xs) && xs.all nB && decide (xs.map sOf).Nodup)) r := k
      rw [h, Bool.true_and] at k
      exact i_retP (pb_and (pb_all (pv_var rfl) (by rw [sizeLine_eq]; omega) fun d hm => pv_call1 (pv_var rfl) fun Q q => ⟨d, rfl, hx d hm, q⟩) fun e => pv_call1 (pv_var rfl) fun Q q => ⟨xs.map sOf, .inr (by rw [← strs_ofB e]), by rw [List.length_map]; exact hl, q⟩) k
theorem vok_pairsB (T : Txt K mg) : FnOk P w K mg base CX0 3 T.f_are_pairs T.fd_are_pairs ["value"] (spV K mF (vfB pairsB)) := by
  refine okV (M := mF) (O' := []) T.F_are_pairs sc_are_pairs ?_ (fun cdv A outer s H E hr => (vss_cons (vs_if (vw_or (vt_not (vt_val (ve_isi (Ts := "tuple") (by decide +kernel) (by decide +kernel) (by rfl) T.z_isinstance (by rfl) T.z_tuple (ve_var (pv 0)).vb).ve)) (vw_or1 (vt_not (vt_chain (cp_le) (cp_le) ve_int.vb (ve_len (by rfl) T.z_len (vab_cons (ve_var (pv 0)).vb vab_nil)).vb (ve_gI T.c_MOST_PAIRS).vb)))).vt
        (vss_one (vs_ret ve_bl.ve))
        vss_nil)
      (vss_cons (vs_for (t := (.nm 1)) PassesOwn.never rfl (vi_seq (ve_var (pv 0))) (pg_name (i := 1) sc_are_pairs.nd rfl (Or.inl rfl))
        (vss_cons (vs_if (vw_or (vt_not (vt_val (ve_isi (Ts := "tuple") (by decide +kernel) (by decide +kernel) (by rfl) T.z_isinstance (by rfl) T.z_tuple (ve_var (pv 1)).vb).ve)) (vw_or (vt_cmp (cp_ne hr.units) (ve_len (by rfl) T.z_len (vab_cons (ve_var (pv 1)).vb vab_nil)).vb ve_int.vb) (vw_or (vt_not (vt_val (ve_call (vok_wordB T) (hr.mono (by decide)) (by rfl) T.g_is_word T.F_is_word.kp T.b_is_word (va_cons (ve_ix (ve_var (pv 1)).vb ve_int.vb) va_nil)))) (vw_or1 (vt_cmp (cp_eq hr.units) (ve_ix (ve_var (pv 1)).vb ve_int.vb).vb ve_str.vb))))).vt
        (vss_one (vs_ret ve_bl.ve))
        vss_nil)
      (vss_one (vs_if (vt_not (vt_val (ve_call (vok_nameB T) (hr.mono (by decide)) (by rfl) T.g_is_name T.F_is_name.kp T.b_is_name (va_cons (ve_ix (ve_var (pv 1)).vb ve_int.vb) va_nil))))
        (vss_one (vs_ret ve_bl.ve))
        vss_nil))))
      (vss_one (vs_ret (ve_call (vok_diffB T) (hr.mono (by decide)) (by rfl) T.g_are_different T.F_are_different.kp T.b_are_different (va_cons (vl_lc (own := [("key", 2), ("name", 3)]) (t := (.tp [2, 3])) rfl sc_are_pairs.nd (vi_seq (ve_var (pv 0))) (blkOk_by (N := n_are_pairs) (sc := defScope s_are_pairs) (by decide +kernel)) (fun _ _ _ _ _ => (pg_tup (by rfl) (pgs_cons (pg_name (i := 2) sc_are_pairs.nd rfl (Or.inl rfl)) (pgs_cons (pg_name (i := 3) sc_are_pairs.nd rfl (Or.inl rfl)) pgs_nil)))) (fun _ _ _ _ _ => vpts_nil) (fun _ _ _ _ _ => (ve_var (pv 2)))).ve va_nil))))))) ?_
  · rintro ds r Q ⟨d, rfl, _⟩
    rfl
  · rintro ds r Q ⟨d, rfl, hd, k⟩
    rw [show startV n_are_pairs [_] = [some (_), none, none, none] from rfl]
    refine i_sqIf (pt_or (b := !lenIn 1 12 d) (pt_not (pt_b (pb_isT (pv_var rfl) hd))) fun h => ?_) (fun h => ?_) (fun h => ?_)
    · obtain ⟨xs, rfl, hl, hx⟩ := hd.tup_of (by simpa using h)
      exact pt_eq (pt_not (pt_b (pb_chain pv_c (pv_lenT (pv_var rfl)) pv_c))) (by rw [lenIn_T]; rfl)
    · have e : pairsB d = false := by
        cases d with
        | tuple xs =>
          have h : (!lenIn 1 12 (.tuple xs)) = true := h
          show (lenIn 1 12 (.tuple xs) && xs.all pairB && _) = false
          rw [show lenIn 1 12 (.tuple xs) = false by simpa using h]
          rfl
        | _ => rfl
      rw [e] at k
      exact i_retP pv_c k
    · obtain ⟨xs, rfl, hl, hx⟩ := hd.tup_of (by cases e : isTup d with
        | true => rfl
        | false => rw [e] at h; cases h)
      have h : lenIn 1 12 (.tuple xs) = true := by simpa [isTup] using h
      have k : Q (.bool (lenIn 1 12 (.tuple xs) && xs.all pairB && decide (xs.map fun p => sOf (at0D p)).Nodup)) r := k
      rw [h, Bool.true_and] at k
      clear h
      repeat infer_instance
      refine i_loop (fun i ρ r' => r' = r ∧ (∀ x ∈ xs.take i, pairB x = true) ∧ ∃ v1, ρ = [some (.tuple xs), v1, none, none]) ⟨rfl, by simp, _, rfl⟩ ?_ ?_
      · rintro i d ρ r1 nx hdi ⟨e, hp, v1, rfl⟩ hI
        subst e
        have hm : d ∈ xs := List.mem_of_getElem? hdi
        have hdd := hx d hm
        have bad : pairB d = false → (xs.all pairB && decide (xs.map fun p => sOf (at0D p)).Nodup) = false := fun e => by
          rw [show xs.all pairB = false from by
            rw [List.all_eq_false]
            exact ⟨d, hm, by rw [e]; decide⟩]
          rfl
        refine i_bind1 ?_
        show vSeq _ _ _ [some (.tuple xs), some d, none, none] _
        refine i_sqIf (pt_or (b := !keyB d) (pt_not (pt_b (pb_isT (pv_var rfl) hdd))) fun h => ?_) (fun h => ?_) (fun h => ?_)
        · obtain ⟨ys, rfl, hl2, hy⟩ := hdd.tup_of (by simpa using h)
          refine pt_eq (pt_or (b := !keyB (.tuple ys)) (pt_b (pb_neI (pv_lenT (pv_var rfl)) pv_c)) fun h => ?_) ?_
          · obtain ⟨a, c, rfl⟩ := len_2 (xs := ys) (by simp at h; omega)
            have ca : PB (vCall (vfB wB) (vCons (vOp dIx (vVar 1) (vC (PyData.int 0))) vNil)) [some (.tuple xs), some (.tuple [a, c]), none, none] r1 (wB a) := pv_call1 (pv_ixT (pv_var rfl) at_0) fun Q q => ⟨a, rfl, hy a (by simp), q⟩
            refine pt_eq (pt_or (b := match a with | .str z => decide (z = ("" : Str)) | _ => true) (pt_not (pt_b ca)) fun h => ?_) ?_
            · cases a with
              | str z => exact pt_b (pb_eqS (pv_ixT (pv_var rfl) at_0))
              | _ => cases h
            · cases a with
              | str z =>
                show (!isW z || decide (z = ("" : Str))) = !(isW z && !decide (z = ("" : Str)))
                cases isW z <;> simp
              | _ => rfl
          · by_cases e : ys.length = 2
            · rw [show decide ((ys.length : Int) = 2) = true from decide_eq_true (by omega)]
              rfl
            · rw [show decide ((ys.length : Int) = 2) = false from decide_eq_false (by omega)]
              rcases ys with _ | ⟨a, _ | ⟨c, _ | ⟨u, t⟩⟩⟩
              · rfl
              · cases a <;> rfl
              · exact absurd rfl e
              · cases a <;> rfl
        · rw [bad (by rw [pairB_eq, show keyB d = false by
            cases e : isTup d with
            | true => rw [e] at h; simpa using h
            | false => cases d with
              | tuple ys => cases e
              | _ => rfl]; rfl)] at k
          exact i_retP pv_c k
        · have hk : keyB d = true := by
            cases e : isTup d with
            | true => rw [e] at h; simpa using h
            | false => rw [e] at h; cases h
          obtain ⟨z, y, rfl⟩ : ∃ z y, d = .tuple [.str z, y] := by
            cases d with
            | tuple ys =>
              rcases ys with _ | ⟨a, _ | ⟨c, _ | ⟨u, t⟩⟩⟩
              · cases hk
              · cases a <;> cases hk
              · cases a with
                | str z => exact ⟨_, _, rfl⟩
                | _ => cases hk
              · cases a <;> cases hk
            | _ => cases hk
          clear h
          refine i_ifP (pt_not (pt_b (pv_call1 (pv_ixT (pv_var rfl) at_1) fun Q q => ⟨y, rfl, hdd.mem (by simp), q⟩))) (fun h => ?_) (fun h => ?_)
          · have h : nB y = false := by simpa using h
            rw [bad (by rw [pairB_eq, show at1D (.tuple [.str z, y]) = y from rfl, h, Bool.and_false])] at k
            exact i_retP pv_c k
          · have h : nB y = true := by simpa using h
            refine hI _ _ ⟨rfl, fun x hx => ?_, _, rfl⟩
            rw [List.take_succ, hdi] at hx
            rcases List.mem_append.mp hx with hx | hx
            · exact hp x hx
            · have e : x = .tuple [.str z, y] := by simpa using hx
              rw [e, pairB_eq, hk, show at1D (.tuple [.str z, y]) = y from rfl, h]
              rfl
      · rintro ρ _ ⟨rfl, hp, v1, rfl⟩
        rw [List.take_length] at hp
        rw [List.all_eq_true.mpr hp, Bool.true_and] at k
        dsimp only
        refine i_retP (pv_call1 (x := .list ((xs.map fun p => sOf (at0D p)).map .str)) (fun Q q => ⟨_, rfl, by rw [sizeLine_eq]; omega, i_go (fun p => .str (sOf (at0D p))) (fun d hd R q => ?_) ?_⟩) fun Q q => ⟨_, .inl rfl, by rw [List.length_map]; exact hl, q⟩) k
        · obtain ⟨z, y, rfl⟩ := pairB_of (hp d hd)
          repeat infer_instance
        · rw [List.map_map] at q
          exact q
theorem vok_itemB (T : Txt K mg) : FnOk P w K mg base CX0 19 T.f_is_item T.fd_is_item ["value"] (spV K mF (vfB itemB)) := by
  have GB := vok_blkB4 (P := P) (w := w) (base := base) T
  refine okV (M := mF) (O' := []) T.F_is_item sc_is_item ?_ (fun cdv A outer s H E hr => (vss_cons (vs_if (vw_or (vt_not (vt_val (ve_isi (Ts := "tuple") (by decide +kernel) (by decide +kernel) (by rfl) T.z_isinstance (by rfl) T.z_tuple (ve_var (pv 0)).vb).ve)) (vw_or (vt_cmp (cp_lt) (ve_len (by rfl) T.z_len (vab_cons (ve_var (pv 0)).vb vab_nil)).vb ve_int.vb) (vw_or1 (vt_not (vt_val (ve_isi (Ts := "str") (by decide +kernel) (by decide +kernel) (by rfl) T.z_isinstance (by rfl) T.z_str (ve_ix (ve_var (pv 0)).vb ve_int.vb).vb).ve))))).vt
        (vss_one (vs_ret ve_bl.ve))
        vss_nil)
      (vss_cons (vs_asgStar rfl (ve_var (pv 0)) (pg_name (i := 1) sc_is_item.nd rfl (Or.inl rfl)) (pg_name (i := 2) sc_is_item.nd rfl (Or.inl rfl)))
      (vss_cons (vs_if (vt_cmp (cp_eq hr.units) (ve_var (pv 1)).vb ve_str.vb)
        (vss_one (vs_ret (ve_and (ve_cmp (cp_eq hr.units) (ve_len (by rfl) T.z_len (vab_cons (ve_var (pv 2)).vb vab_nil)).vb ve_int.vb).ve (ve_one (ve_call (vok_namesB T) (hr.mono (by decide)) (by rfl) T.g_are_names T.F_are_names.kp T.b_are_names (va_cons (ve_ix (ve_var (pv 2)).vb ve_int.vb) (va_cons ve_int.ve (va_cons (ve_gI T.c_MOST_PAIRS).ve va_nil))))))))
        vss_nil)
      (vss_cons (vs_if (vt_not (vt_val (ve_call (vok_nameB T) (hr.mono (by decide)) (by rfl) T.g_is_name T.F_is_name.kp T.b_is_name (va_cons (ve_ix (ve_var (pv 2)).vb ve_int.vb) va_nil))))
        (vss_one (vs_ret ve_bl.ve))
        vss_nil)
      (vss_cons (vs_match (ve_len (by rfl) T.z_len (vab_cons (ve_var (pv 2)).vb vab_nil)).ve (vcs_int
        (vss_one (vs_ret (ve_cmp (cp_in (hu65 hr)) (ve_var (pv 1)).vb (ve_tup (va_cons ve_str.ve (va_cons ve_str.ve va_nil))).vb).ve))
        (vcs_int
        (vss_one (vs_ret (ve_or (ve_and (ve_cmp (cp_eq hr.units) (ve_var (pv 1)).vb ve_str.vb).ve (ve_one (ve_call (vok_wordB T) (hr.mono (by decide)) (by rfl) T.g_is_word T.F_is_word.kp T.b_is_word (va_cons (ve_ix (ve_var (pv 2)).vb ve_int.vb) va_nil)))) (ve_one (ve_and (ve_cmp (cp_eq hr.units) (ve_var (pv 1)).vb ve_str.vb).ve (ve_one (ve_call (vok_pairsB T) (hr.mono (by decide)) (by rfl) T.g_are_pairs T.F_are_pairs.kp T.b_are_pairs (va_cons (ve_ix (ve_var (pv 2)).vb ve_int.vb) va_nil))))))))
        (vcs_intG (vt_cmp (cp_eq hr.units) (ve_var (pv 1)).vb ve_str.vb)
        (vss_one (vs_ret (ve_and (ve_call (vok_nameB T) (hr.mono (by decide)) (by rfl) T.g_is_name T.F_is_name.kp T.b_is_name (va_cons (ve_ix (ve_var (pv 2)).vb ve_int.vb) va_nil)) (ve_one (ve_call (vok_nameB T) (hr.mono (by decide)) (by rfl) T.g_is_name T.F_is_name.kp T.b_is_name (va_cons (ve_ix (ve_var (pv 2)).vb ve_int.vb) va_nil))))))
        (vcs_intG (vt_cmp (cp_eq hr.units) (ve_var (pv 1)).vb ve_str.vb)
        (vss_one (vs_ret (ve_and (ve_call (vok_namesB T) (hr.mono (by decide)) (by rfl) T.g_are_names T.F_are_names.kp T.b_are_names (va_cons (ve_ix (ve_var (pv 2)).vb ve_int.vb) (va_cons ve_int.ve (va_cons (ve_gI T.c_MOST_GIVEN).ve va_nil)))) (ve_one (ve_call GB (hr.mono (by decide)) (by rfl) T.g_is_block T.F_is_block.kp T.b_is_block (va_cons (ve_ix (ve_var (pv 2)).vb ve_int.vb) (va_cons ve_int.ve va_nil)))))))
        vcs_nil)))))
      (vss_one (vs_ret ve_bl.ve)))))))) ?_
  · rintro ds r Q ⟨d, rfl, _⟩
    rfl
  · rintro ds r Q ⟨d, rfl, hd, k⟩
    rw [show startV n_is_item [_] = [some (_), none, none] from rfl]
    refine i_sqIf (pt_or (b := !tupS 2 d) (pt_not (pt_b (pb_isT (pv_var rfl) hd))) fun h => ?_) (fun h => ?_) (fun h => ?_)
    · obtain ⟨xs, rfl, hl, hx⟩ := hd.tup_of (by simpa using h)
      refine pt_eq (pt_or (b := !tupS 2 (.tuple xs)) (pt_b (pb_cmpI (pv_lenT (pv_var rfl)) pv_c)) fun h => ?_) ?_
      · have h : ¬ (xs.length : Int) < 2 := of_decide_eq_false h
        rcases xs with _ | ⟨a, _ | ⟨b, t⟩⟩
        · exact absurd (by decide) h
        · exact absurd (show (1 : Int) < 2 by decide) h
        refine pt_eq (pt_not (pt_b (pb_isS (pv_ixT (pv_var rfl) at_0) (hx a (by simp))))) ?_
        cases a <;> rfl
      · rcases xs with _ | ⟨a, _ | ⟨b, t⟩⟩
        · rfl
        · cases a <;> rfl
        · rw [show decide (((a :: b :: t).length : Int) < 2) = false from decide_eq_false (by simp; omega)]
          rfl
    · refine i_retP pv_c ?_
      have e : itemB d = false := by
        cases d with
        | tuple xs =>
          rcases xs with _ | ⟨a, _ | ⟨b, t⟩⟩
          · rfl
          · cases a <;> rfl
          · cases a with
            | str z => cases h
            | _ => rfl
        | _ => rfl
      rw [e] at k
      exact k
    · obtain ⟨z, x, t, rfl⟩ := tupS2 (d := d) (by
        cases e : isTup d with
        | true => rw [e] at h; simpa using h
        | false => rw [e] at h; cases h)
      have hb : Pl x := hd.mem (by simp)
      clear h
      show vSeq _ _ _ _ _
      refine i_asgStar (pv_var rfl) ?_
      show vSeq _ _ _ _ _
      have k : Q (.bool (if z = "offer" then decide ((((x :: t).length : Nat) : Int) = 1) && namesB 1 12 x else if (!nB x) = true then false else restB z t)) r := k
      refine i_sqIf (pt_b (pb_eqS (pv_var rfl))) (fun h => ?_) (fun h => ?_)
      · rw [if_pos (of_decide_eq_true h)] at k
        exact i_retP (pb_and (pb_eqI (pv_lenL (pv_var rfl)) pv_c) fun _ => pv_call3 (pv_ixL (pv_var rfl) at_0) pv_c pv_c fun Q q => ⟨x, 1, 12, rfl, hb, q⟩) k
      rw [if_neg (of_decide_eq_false h)] at k
      show vSeq _ _ _ _ _
      have c1 : ∀ {ρ : En} {va : VT} {y : D} {f : D → Bool}, y ∈ (PyData.str z :: x :: t) → PV va ρ r y → PB (vCall (vfB f) (vCons va vNil)) ρ r (f y) := fun hm ha => pv_call1 ha fun Q q => ⟨_, rfl, hd.mem hm, q⟩
      refine i_sqIf (pt_not (pt_b (c1 (by simp) (pv_ixL (pv_var rfl) at_0)))) (fun h => ?_) (fun h => ?_)
      · rw [if_pos h] at k
        exact i_retP pv_c k
      rw [if_neg (by rw [h]; decide)] at k
      show vSeq _ _ _ _ _
      refine i_matchP (pv_lenL (pv_var rfl)) ?_
      rcases t with _ | ⟨y, _ | ⟨u, _ | ⟨v, t⟩⟩⟩
      · have k : Q (.bool (decide (z ∈ (["star", "entry"] : List Str)))) r := k
        exact i_vcY rfl (i_retP (pb_inS (ys := ["star", "entry"]) (pv_var rfl) fun Q q => ⟨by decide +kernel, q⟩) k)
      · refine i_vcN (show (2 : Int) ≠ 1 by decide) ?_
        exact i_vcY rfl (i_retP (pb_or (pb_and (pb_eqS (pv_var rfl)) fun _ => c1 (by simp) (pv_ixL (pv_var rfl) at_1)) fun _ => pb_and (pb_eqS (pv_var rfl)) fun _ => c1 (by simp) (pv_ixL (pv_var rfl) at_1)) k)
      · refine i_vcN (show (3 : Int) ≠ 1 by decide) ?_
        refine i_vcN (show (3 : Int) ≠ 2 by decide) ?_
        have k : Q (.bool (if z = "use" then nB y && nB u else if z = "def" then namesB 0 3 y && blkB 4 u else false)) r := k
        refine i_vgY rfl (pt_b (pb_eqS (pv_var rfl))) (fun h => ?_) (fun h => ?_)
        · rw [if_pos (of_decide_eq_true h)] at k
          exact i_retP (pb_and (c1 (by simp) (pv_ixL (pv_var rfl) at_1)) fun _ => c1 (by simp) (pv_ixL (pv_var rfl) at_2)) k
        rw [if_neg (of_decide_eq_false h)] at k
        refine i_vgY rfl (pt_b (pb_eqS (pv_var rfl))) (fun h => ?_) (fun h => ?_)
        · rw [if_pos (of_decide_eq_true h)] at k
          exact i_retP (pb_and (pv_call3 (pv_ixL (pv_var rfl) at_1) pv_c pv_c fun Q q => ⟨y, 0, 3, rfl, hd.mem (by simp), q⟩) fun _ => pv_call2 (pv_ixL (pv_var rfl) at_2) pv_c fun Q q => ⟨u, rfl, hd.mem (by simp), q⟩) k
        rw [if_neg (of_decide_eq_false h)] at k
        exact k
      · refine i_vcN (by simp; omega) ?_
        refine i_vcN (by simp; omega) ?_
        refine i_vgN (by simp; omega) ?_
        refine i_vgN (by simp; omega) ?_
        exact k
theorem vok_treeB (T : Txt K mg) : FnOk P w K mg base CX0 20 T.f_is_tree T.fd_is_tree ["value"] (spV K mF (vfB treeB)) := by
  refine okV (M := mF) (O' := []) T.F_is_tree sc_is_tree ?_ (fun cdv A outer s H E hr => (vss_cons (vs_if (vw_or (vt_not (vt_val (ve_isi (Ts := "tuple") (by decide +kernel) (by decide +kernel) (by rfl) T.z_isinstance (by rfl) T.z_tuple (ve_var (pv 0)).vb).ve)) (vw_or1 (vt_not (vt_val (ve_all rfl (by rfl) T.z_all (vab_cons (vl_lc (own := [("item", 1)]) (t := (.nm 1)) rfl sc_is_tree.nd (vi_seq (ve_var (pv 0))) (blkOk_by (N := n_is_tree) (sc := defScope s_is_tree) (by decide +kernel)) (fun _ _ _ _ _ => (pg_name (i := 1) sc_is_tree.nd rfl (Or.inl rfl))) (fun _ _ _ _ _ => vpts_nil) (fun _ _ _ _ _ => (ve_call (vok_itemB T) (hr.mono (by decide)) (by rfl) T.g_is_item T.F_is_item.kp T.b_is_item (va_cons (ve_var (pv 1)) va_nil)))).vb vab_nil)).ve)))).vt
        (vss_one (vs_ret ve_bl.ve))
        vss_nil)
      (vss_one (vs_ret (ve_call (vok_diffB T) (hr.mono (by decide)) (by rfl) T.g_are_different T.F_are_different.kp T.b_are_different (va_cons (vl_lc (own := [("item", 1)]) (t := (.nm 1)) rfl sc_is_tree.nd (vi_seq (ve_var (pv 0))) (blkOk_by (N := n_is_tree) (sc := defScope s_is_tree) (by decide +kernel)) (fun _ _ _ _ _ => (pg_name (i := 1) sc_is_tree.nd rfl (Or.inl rfl))) (fun _ _ _ _ _ => (vpts_one (vt_cmp (cp_in (hu65 hr)) (ve_ix (ve_var (pv 1)).vb ve_int.vb).vb (ve_gT T.c_BINDERS T.q_BINDERS (fun _ _ _ => (.cons (.str _) (.cons (.str _) (.cons (.str _) (.cons (.str _) .nil)))))).vb))) (fun _ _ _ _ _ => (ve_ix (ve_var (pv 1)).vb ve_int.vb))).ve va_nil)))))) ?_
  · rintro ds r Q ⟨d, rfl, _⟩
    rfl
  · rintro ds r Q ⟨d, rfl, hd, k⟩
    rw [show startV n_is_tree [_] = [some (_), none] from rfl]
    refine i_sqIf (pt_or (b := !itemsB d) (pt_not (pt_b (pb_isT (pv_var rfl) hd))) fun h => ?_) (fun h => ?_) (fun h => ?_)
    · obtain ⟨xs, rfl, hl, hx⟩ := hd.tup_of (by simpa using h)
      exact pt_not (pt_b (pb_all (pv_var rfl) (by rw [sizeLine_eq]; omega) fun d hm => pv_call1 (pv_var rfl) fun Q q => ⟨d, rfl, hx d hm, q⟩))
    · have e : treeB d = false := by
        cases d with
        | tuple xs =>
          have h : (!xs.all itemB) = true := h
          show (xs.all itemB && _) = false
          rw [show xs.all itemB = false by simpa using h]
          rfl
        | _ => rfl
      rw [e] at k
      exact i_retP pv_c k
    · obtain ⟨xs, rfl, hl, hx⟩ := hd.tup_of (by cases e : isTup d with
        | true => rfl
        | false => rw [e] at h; cases h)
      have h : xs.all itemB = true := by simpa [isTup, itemsB] using h
      have k : Q (.bool (xs.all itemB && decide ((xs.filter bindsB).map fun d => sOf (at1D d)).Nodup)) r := k
      rw [h, Bool.true_and] at k
      have hi := List.all_eq_true.mp h
      dsimp only
      refine i_retP (pv_call1 (pv_lcF (p := bindsB) (f := fun d => .str (sOf (at1D d))) (pv_var rfl) (by rw [sizeLine_eq]; omega) (fun d hm => ?_) fun d hm hp => ?_) fun Q q => ⟨(xs.filter bindsB).map fun d => sOf (at1D d), .inl (by rw [List.map_map]; rfl), ?_, q⟩) k
      · obtain ⟨z, x, t, rfl, _⟩ := itemB_of (hi d hm)
        exact pt_b (pb_inS (ys := ["use", "set", "table", "def"]) (pv_ixT (pv_var rfl) at_0) pv_c)
      · obtain ⟨z, x, t, rfl, hn⟩ := itemB_of (hi d hm)
        have hz : z ∈ (["use", "set", "table", "def"] : List Str) := of_decide_eq_true hp
        have hx : nB x = true := hn fun e => by
          rw [e] at hz
          revert hz
          decide +kernel
        cases x with
        | str y => exact pv_ixT (pv_var rfl) at_1
        | _ => cases hx
      · rw [List.length_map]
        exact Nat.le_trans (List.length_filter_le _ _) hl
end
end Sn
namespace Sn
open PySem PySem.Spec PyProof.Rows L2 HT
section
variable {prog : Program} {w : World} {A : Around} {E : Value → Shared → Prop} {s : Shared}
theorem applied_rev {sl : Addr} {vl vu vs : Value} {n : Nat} {Q : Int × Int × Nat → Shared → Prop} (hs : s.heap.IsSliceOf sl vl vu vs) (pl : IsPart vl none) (pu : IsPart vu none) (ps : IsPart vs (some (-1)))
    (h : Q ((n : Int) - 1, -1, n) s) : wpAny (model prog w) A (Builtin.Slice.sliceApplied (.ref sl) (pure (n : Int))) Q E s := by
  obtain ⟨os, hos, hcs, hds⟩ := id hs
  unfold Builtin.Slice.sliceApplied Builtin.Slice.sliceFields
  refine wpAny_bind (wpAny_bind (wpAny_field hos hds (x := vl) rfl (wpAny_bind (wpAny_field hos hds (x := vu) rfl (wpAny_bind (wpAny_field hos hds (x := vs) rfl (wpAny_pure ?_)))))))
  refine wpAny_bind (slicePart_ ps ?_)
  show wpAny _ _ (if ((-1 : Int) == 0) = true then _ else _) _ _ s
  rw [if_neg (by decide)]
  refine wpAny_bind (slicePart_ pl (wpAny_bind (slicePart_ pu (wpAny_bind (wpAny_pure ?_)))))
  have e1 : Builtin.Slice.sliceAdjust none none (-1) (n : Int) = ((n : Int) - 1, -1) := rfl
  have e2 : Builtin.Slice.slicePlaces ((n : Int) - 1) (-1) (-1) = n := by
    unfold Builtin.Slice.slicePlaces
    rw [if_neg (by decide)]
    split
    · rw [show (- -1 : Int) = 1 by decide, Int.ediv_one]
      omega
    · omega
  show wpAny _ _ (match Builtin.Slice.sliceAdjust none none (-1) (n : Int) with | (lo, hi) => pure (lo, (-1 : Int), Builtin.Slice.slicePlaces lo hi (-1))) _ _ s
  rw [e1]
  show wpAny _ _ (pure ((n : Int) - 1, (-1 : Int), Builtin.Slice.slicePlaces ((n : Int) - 1) (-1) (-1))) _ _ s
  rw [e2]
  exact wpAny_pure h
theorem pick_rev (xs : Array Value) : ((List.range xs.size).filterMap fun (m : Nat) => xs[(((xs.size : Nat) : Int) - 1 + (m : Int) * -1).toNat]?).toArray = xs.toList.reverse.toArray := by
  rw [← PySem.W.krv_all, ← List.filterMap_reverse, ← PySem.W.krv_range, List.filterMap_map]
  have key : ∀ (l : List Nat), (∀ k ∈ l, k < xs.size) → (l.filterMap fun (m : Nat) => xs[(((xs.size : Nat) : Int) - 1 + (m : Int) * -1).toNat]?) = l.filterMap ((fun x => xs[x]?) ∘ fun k => xs.size - 1 - k) := by
    intro l
    induction l with
    | nil => intro _; rfl
    | cons k l ih =>
      intro h
      have hk := h k (by simp)
      have e : xs[(((xs.size : Nat) : Int) - 1 + (k : Int) * -1).toNat]? = ((fun x => xs[x]?) ∘ fun k => xs.size - 1 - k) k := by
        show xs[_]? = xs[xs.size - 1 - k]?
        rw [show (((xs.size : Nat) : Int) - 1 + (k : Int) * -1).toNat = xs.size - 1 - k by omega]
      rw [List.filterMap_cons, List.filterMap_cons, e, ih fun j hj => h j (by simp [hj])]
  rw [key _ fun k hk => List.mem_range.mp hk]
theorem getItem_tuple_rev {t sl : Addr} {items : Array Value} {vl vu vs : Value} {Q : Value → Shared → Prop} (ht : IsTup s.heap t items) (hs : s.heap.IsSliceOf sl vl vu vs) (pl : IsPart vl none) (pu : IsPart vu none) (ps : IsPart vs (some (-1)))
    (h : Q (.ref s.heap.objs.size) { s with heap := s.heap.push { cls := .type "tuple", data := .seq items.toList.reverse.toArray } })
    (hsz : items.size ≤ sizeLine) : wpAny (model prog w) A (getItem (.ref t) (.ref sl)) Q E s := by
  have htake : sizeOk (.seq items.toList.reverse.toArray) := by
    show items.toList.reverse.toArray.size ≤ sizeLine
    rw [List.size_toArray, List.length_reverse, Array.length_toList]
    exact hsz
  obtain ⟨os, hos, hcs, hds⟩ := id hs
  have hTs : s.TypeIs (.ref sl) "slice" := ⟨os, hos, hcs⟩
  unfold getItem
  try with_reducible refine wpAny_holding ?_
  first | refine wpAny_bind (wpAny_pure ?_) | skip
  refine wpAny_bind (wpAny_sequenceKey ht.typeIs (by decide) ?_)
  refine wpAny_bind (wpAny_callSpecial?_slot (name := Str.ofString "__getitem__") ht.typeIs PyProof.Rows.slot_tuple_getitem
    (wpAny_call_entry PyProof.Rows.slot_tuple_getitem ht.typeIs entry_tuple_getitem ?_ (args_tuple_getitem _ _)))
  show wpAny _ _ (Builtin.Tuple.tupleItemsOf (.ref t) >>= _) _ _ s
  refine wpAny_bind (tupleItemsOf_ ht ?_)
  refine wpAny_bind (wpAny_typeOf hTs ?_)
  rw [if_pos (by decide)]
  refine wpAny_bind (applied_rev hs pl pu ps ?_)
  have hno : ¬ ((((items.size : Int) - 1) == 0 && (-1 : Int) == 1 && items.size == items.size) = true) := by
    intro q
    rw [Bool.and_eq_true, Bool.and_eq_true] at q
    exact absurd q.1.2 (by decide)
  show wpAny _ _ (if (((items.size : Int) - 1) == 0 && (-1 : Int) == 1 && items.size == items.size) = true then _ else _) _ _ s
  rw [if_neg hno, pick_rev]
  first
    | exact wpAny_bind (m := Builtin.Tuple.tupleExact _) (wpAny_newObj_type (wpAny_pure ⟨_, rfl, wpAny_pure h⟩) htake)
    | exact wpAny_bind (m := Builtin.Tuple.tupleExact _) (wpAny_newObj_type (wpAny_bind (wpAny_pure (wpAny_pure ⟨_, rfl, wpAny_pure h⟩))) htake)
    | exact wpAny_bind (wpAny_bind (m := Builtin.Tuple.tupleExact _) (wpAny_newObj_type (wpAny_pure (wpAny_pure ⟨_, rfl, wpAny_pure h⟩)) htake))
    | exact wpAny_bind (wpAny_bind (m := Builtin.Tuple.tupleExact _) (wpAny_newObj_type (wpAny_pure ⟨_, rfl, wpAny_pure h⟩) htake))
end
def tRevT (K : PySem.W.Frag) (te : TE) : TE := fun σ H Q => te σ H fun x H1 => ∃ a xs, x = .ref a ∧ SqT K H1 a xs ∧ ∀ p, H1 p = none → Q (.ref p) (upd H1 p (.tup xs.reverse))
section
variable {X : Cx} {O : List Nat}
theorem pe_revT {e : Expr} {te : TE} {k : Nat} {p1 p2 p3 pos : Pos} (he : PE X e te) : PE X (.Subscript e (.Slice none none (some (.UnaryOp .USub (.Constant (.int 1) k p1) p2)) p3) pos) (tRevT X.K te) := by
  refine ⟨fun pins s σ H Q I h => ?_⟩
  refine Subscript_ (thn (he.run pins s σ H _ I h) fun v s1 ⟨x, H1, I1, r1, q1⟩ => ?_)
  obtain ⟨a, xs, ex, hx, q⟩ := q1
  subst ex
  cases r1
  have hst : PO X (some (.UnaryOp .USub (.Constant (.int 1) k p1) p2)) (tPart (tUn (rU fun i => .int (-i)) (tC (.int 1)))) := po_some (pe_un un_neg pe_int)
  refine wpAny_Slice (thn (po_none.run pins s1 σ H1 (fun o H2 => o = none ∧ H2 = H1) I1 ⟨rfl, rfl⟩) fun vl s2 ⟨l, H2, I2, pl, el, e2⟩ => ?_)
  subst el e2
  refine thn (po_none.run pins s2 σ H2 (fun o H3 => o = none ∧ H3 = H2) I2 ⟨rfl, rfl⟩) fun vu s3 ⟨u, H3, I3, pu, eu, e3⟩ => ?_
  subst eu e3
  refine thn (hst.run pins s3 σ H3 (fun o H4 => o = some (-1) ∧ H4 = H3) I3 ⟨1, rfl, -1, rfl, rfl, rfl⟩) fun vs s4 ⟨o, H4, I4, ps, eo, e4⟩ => ?_
  subst eo e4
  have I5 : Inv X pins σ H4 { s4 with heap := s4.heap.push { cls := .type "slice", data := .fields #[vl, vu, vs] } } := I4.kept (t' := s4.toks) fun b ob q => Heap.get?_push_of_some _ q
  obtain ⟨its, r, ht, hz⟩ := I5.tuple hx
  have hlen := r.length
  show wpAny (model X.prog X.w) X.A (subscriptTail e (.Slice none none (some (.UnaryOp .USub (.Constant (.int 1) k p1) p2)) p3) (.ref a) (.ref s4.heap.objs.size)) (EP X pins σ Q) X.xe { s4 with heap := s4.heap.push { cls := .type "slice", data := .fields #[vl, vu, vs] } }
  refine tail_any (ops := [.ref a, .ref s4.heap.objs.size]) ht.typeIs (PyProof.Rows.slot_tuple_getitem.lookup) ?_ (by with_unfolding_all rfl)
  refine getItem_tuple_rev ht (Heap.IsSliceOf.new _ vl vu vs) pl pu ps ?_ (by rw [List.size_toArray]; omega)
  refine ⟨.ref _, _, I5.laid (t' := s4.toks) (o := .tup xs.reverse) (fun b ob q => Heap.get?_push_of_some _ q) (Nat.le_refl _) ?_, rfl, q _ (I5.hok.fresh (Nat.le_refl _))⟩
  exact ⟨by rw [List.length_reverse]; exact hz, _, r.reverse, IsTup.new _ _⟩
def vRevT (v : VT) : VT := fun ρ r Q => v ρ r fun d r1 => ∃ ds, d = .tuple ds ∧ Q (.tuple ds.reverse) r1
variable {e : Expr} {v1 : VT} {k : Nat} {p1 p2 p3 pos : Pos}
/-- t[::-1] -/
theorem ve_revT (h : VB X O e v1) : VE X O (.Subscript e (.Slice none none (some (.UnaryOp .USub (.Constant (.int 1) k p1) p2)) p3) pos) (vRevT v1) := PE.imp (pe_revT h) fun σ H Q q => by
  obtain ⟨A, W0, H0, W, ρ, r, Q0, E, q, k⟩ := q
  refine ⟨A, W0, H0, W, ρ, r, _, E, q, fun d r1 q1 v H1 W1 x1 E1 m1 => ?_⟩
  obtain ⟨ds, rfl, q1⟩ := q1
  obtain ⟨a, xs, rfl, ha, hx⟩ := m1.tup
  refine ⟨a, xs, rfl, ha, fun p hp => ?_⟩
  exact k _ r1 q1 _ _ W1 (x1.trans (Ext.new hp)) (E1.new hp) (.tup (.inl (.inl upd_same)) (hx.rev.ext (Ext.new hp) E1.res.av))
end
end Sn
namespace PySem.SeqAt
open PySem MeetsSeq
variable {A : Around} {s : Shared}
theorem dict_eq_declines_str (l : Addr) (o : Obj) (b : Str) (u : Tok) (hc : o.cls = .type "dict") :
    Meets (Builtin.«dict.__eq__» ⟨[.ref l, .str b u], []⟩) (fun _ R s => s.heap.get? l = some o ∧ R (.ok (.ret .notImplemented)) s) :=
  .of_wp fun prog w A R s h => by
    obtain ⟨hp, g, d, tk, os⟩ := s
    obtain ⟨hl, h⟩ := h
    have f1 := F.sub_str_dict
    obtain ⟨cls, dd, data, sl⟩ := o
    simp only at hc
    subst hc
    wp_walk using wpAny_loadPart' hl, wpAny_load hl
    exact ⟨_, rfl, h⟩
theorem str_eq_declines_dict (b : Str) (u : Tok) (l : Addr) (o : Obj) {es : Array DictEntry} {ep : Nat} (hc : o.cls = .type "dict") (hd : o.data = .dict es ep) :
    Meets (Builtin.«str.__eq__» ⟨[.str b u, .ref l], []⟩) (fun _ R s => s.heap.get? l = some o ∧ R (.ok (.ret .notImplemented)) s) :=
  .of_wp fun prog w A R s h => by
    obtain ⟨hp, g, d, tk, os⟩ := s
    obtain ⟨hl, h⟩ := h
    have f1 := F.sub_dict_str
    obtain ⟨cls, dd, data, sl⟩ := o
    simp only at hc hd
    subst hc hd
    wp_walk using wpAny_loadPart' hl, wpAny_load hl
    exact ⟨_, rfl, h⟩
theorem RcAt.dict_str {l : Addr} {o : Obj} (b : Str) (u : Tok) (ho : s.heap.get? l = some o) {es : Array DictEntry} {ep : Nat} (hc : o.cls = .type "dict") (hd : o.data = .dict es ep) (hu : A.units < cLine) : RcAt A s (.ref l) (.str b u) false := fun prog w E Q h =>
  rc_eq_decline_or (k := false) ⟨_, ho, hc⟩ (typeIs_str s b u) (by decide) F.sub_str_dict F.slot_dict_eq F.slot_str_eq_refl
    (fun _ hq => call_meets F.slot_dict_eq ⟨_, ho, hc⟩ F.entry_dict_eq (F.args_dict_eq_2 _ _) (dict_eq_declines_str l o b u hc) ⟨ho, hq⟩)
    (fun _ hq => call_meets F.slot_str_eq_refl (typeIs_str s b u) F.entry_str_eq (F.args_str_eq_2 _ _) (str_eq_declines_dict b u l o hc hd) ⟨ho, hq⟩)
    (fun _ hq => wpAny_of_eq (rfl : isSame (.ref l) (.str b u) = pure false) hq) (.inr hu) h
theorem EqAt.dict_str {l : Addr} {o : Obj} (b : Str) (u : Tok) (ho : s.heap.get? l = some o) {es : Array DictEntry} {ep : Nat} (hc : o.cls = .type "dict") (hd : o.data = .dict es ep) (hu : A.units < cLine) : EqAt A s (.ref l) (.str b u) false := fun prog w E Q h => by
  unfold eqBool
  refine wpAny_holding ?_
  refine wpAny_ite_split (fun hab => absurd (eq_of_beq hab) nofun) (fun _ => ?_)
  exact wpAny_bind (RcAt.dict_str b u ho hc hd hu prog w E _ (wpAny_truthy_bool h))
end PySem.SeqAt
namespace Sn
open PySem PySem.Spec PyProof.Rows L2
section
variable {X : Cx}
/-- t == (), t != () -/
def rNilT (neg : Bool) (K : PySem.W.Frag) : R2 := fun x y H Q => ∃ a b xs, x = .ref a ∧ y = .ref b ∧ SqT K H a xs ∧ SqT K H b [] ∧ Q (.bl (if neg then !xs.isEmpty else xs.isEmpty)) H
theorem op_eqNilT (hu : X.A.units + 64 < cLine) : OpR X (compareOp .Eq) (rNilT false X.K) := by
  intro pins s σ H x y v u Q I rx ry h
  obtain ⟨a, b, xs, rfl, rfl, ha, hb, q⟩ := h
  cases rx
  cases ry
  obtain ⟨its, rv, pl, _⟩ := I.tuple ha
  obtain ⟨jts, rw', pl', _⟩ := I.tuple hb
  cases rw'
  have e : ((List.range (min its.toArray.size ([] : List Value).toArray.size)).all (fun _ => true) && its.toArray.size == ([] : List Value).toArray.size) = xs.isEmpty := by
    have e1 := rv.length
    cases xs with
    | nil => cases rv; rfl
    | cons z r => cases rv; rfl
  exact PySem.SeqAt.RcAt.tuples (e := fun _ => true) pl pl' (by omega) (fun j h1 h2 => absurd h2 (by simp)) _ _ _ _ ⟨_, H, I, by rw [e]; rfl, q⟩
theorem op_neNilT (hu : X.A.units + 64 < cLine) : OpR X (compareOp .NotEq) (rNilT true X.K) := by
  intro pins s σ H x y v u Q I rx ry h
  obtain ⟨a, b, xs, rfl, rfl, ha, hb, q⟩ := h
  cases rx
  cases ry
  obtain ⟨its, rv, pl, _⟩ := I.tuple ha
  obtain ⟨jts, rw', pl', _⟩ := I.tuple hb
  cases rw'
  have e : (!((List.range (min its.toArray.size ([] : List Value).toArray.size)).all (fun _ => true) && its.toArray.size == ([] : List Value).toArray.size)) = !xs.isEmpty := by
    cases xs with
    | nil => cases rv; rfl
    | cons z r => cases rv; rfl
  exact PySem.SeqAt.RcNeAt.tuples (e := fun _ => true) pl pl' (by omega) (fun j h1 h2 => absurd h2 (by simp)) _ _ _ _ ⟨_, H, I, by rw [e]; rfl, q⟩
def strIn (z : Str) : V → Bool
  | .str w => w == z
  | _ => false
/-- a value that is known -/
inductive KnV (K : PySem.W.Frag) (H : Hp) : V → Prop
  | non : KnV K H .non
  | bl (b : Bool) : KnV K H (.bl b)
  | int (i : Int) : KnV K H (.int i)
  | str (w : Str) : KnV K H (.str w)
  | lst {a : Addr} {xs : List V} (h : SqL K H a xs) : KnV K H (.ref a)
  | tup {a : Addr} {xs : List V} (h : SqT K H a xs) : KnV K H (.ref a)
  | dic {a : Addr} {kvs : List (Key × V)} (h : IsK H a kvs) : KnV K H (.ref a)
def eStr (z : Str) : Value → Bool
  | .str w _ => w == z
  | _ => false
theorem eqAt_str {pins : List (Addr × Obj)} {σ : L2.St} {H : Hp} {s : Shared} {A : Around} (I : Inv X pins σ H s) (hu : A.units < cLine) {v : V} {y : Value} (k : KnV X.K H v) (r : RelV v y) (z : Str) (t : Tok) : PySem.SeqAt.EqAt A s y (.str z t) (eStr z y) := by
  cases k with
  | non => cases r; exact PySem.SeqAt.EqAt.none_str z t
  | bl b => cases r; exact PySem.SeqAt.EqAt.bool_str b z t
  | int i => obtain ⟨u, rfl⟩ := r; exact PySem.SeqAt.EqAt.int_str i u z t
  | str w => obtain ⟨u, rfl⟩ := r; exact PySem.SeqAt.EqAt.str_str w u z t
  | lst h =>
    cases r
    obtain ⟨its, _, pl, _⟩ := I.list h
    exact PySem.SeqAt.EqAt.list_str z t pl.isList hu
  | tup h =>
    cases r
    obtain ⟨its, _, pl, _⟩ := I.tuple h
    exact PySem.SeqAt.EqAt.tuple_str z t pl hu
  | dic h =>
    cases r
    obtain ⟨_, _, vs, _, o, es, ep, ho, hc, hd, _⟩ := dk_rd I.hok h
    exact PySem.SeqAt.EqAt.dict_str z t ho hc.1 hd hu
theorem any_str (z : Str) : ∀ {xs : List V} {its : List Value}, Vals xs its → its.any (eStr z) = xs.any (strIn z)
  | _, _, .nil => rfl
  | _, _, .cons (a := x) r rs => by
    rw [List.any_cons, List.any_cons, any_str z rs]
    congr 1
    cases x <;> first | (cases r; rfl) | (obtain ⟨u, rfl⟩ := r; rfl)
theorem mem_vals {P : V → Value → Prop} : ∀ {xs : List V} {its : List Value}, Vals xs its → ∀ y ∈ its, ∃ v ∈ xs, RelV v y
  | _, _, .nil, _, h => by cases h
  | _, _, .cons r rs, y, h => by
    rcases List.mem_cons.mp h with rfl | h
    · exact ⟨_, by simp, r⟩
    · obtain ⟨v, hv, q⟩ := mem_vals (P := P) rs y h
      exact ⟨v, List.mem_cons_of_mem _ hv, q⟩
/-- a text in a tuple, whatever it holds -/
def rInS (neg : Bool) (K : PySem.W.Frag) : R2 := fun x y H Q => ∃ z a xs, x = .str z ∧ y = .ref a ∧ SqT K H a xs ∧ (∀ v ∈ xs, KnV K H v) ∧ Q (.bl (if neg then !xs.any (strIn z) else xs.any (strIn z))) H
theorem op_inStrT (hu : X.A.units + 65 < cLine) : OpR X (compareOp .In) (rInS false X.K) := by
  intro pins s σ H x y v u Q I rx ry h
  obtain ⟨z, a, xs, rfl, rfl, ha, hk, q⟩ := h
  obtain ⟨t, rfl⟩ := rx
  cases ry
  obtain ⟨its, rv, pl, _⟩ := I.tuple ha
  refine PySem.SeqAt.in_tupleAt (eStr z) pl (fun y hy => ?_) ⟨_, H, I, by rw [List.any_toArray, any_str z rv]; rfl, q⟩
  obtain ⟨w, hw, r⟩ := mem_vals (P := fun _ _ => True) rv y (by simpa using hy)
  exact eqAt_str I (show X.A.units + 1 < cLine by omega) (hk w hw) r z t
def dNilT (neg : Bool) (d e : D) (Q : D → Prop) : Prop := ∃ ds, d = .tuple ds ∧ e = .tuple [] ∧ Q (.bool (if neg = true then !ds.isEmpty else ds.isEmpty))
theorem sim_nilT {K : PySem.W.Frag} {neg : Bool} : OpSim K mL (rNilT neg K) (dNilT neg) := by
  intro A W H rs x y d1 d2 Q0 Q R m1 m2 q k
  obtain ⟨ds, rfl, rfl, q⟩ := q
  obtain ⟨a, xs, rfl, ha, hx⟩ := m1.tup
  obtain ⟨b, ys, rfl, hb, hy⟩ := m2.tup
  cases hy
  refine ⟨a, b, xs, rfl, rfl, ha, hb, ?_⟩
  have e : ds.isEmpty = xs.isEmpty := by cases hx <;> rfl
  rw [← e]
  exact flat_go R k q rfl (.bl _)
def dInS (neg : Bool) (d e : D) (Q : D → Prop) : Prop := ∃ z ds, d = .str z ∧ e = .tuple ds ∧ (∀ x ∈ ds, (tyN x).isSome = true) ∧ Q (.bool (if neg = true then !inD (.str z) ds else inD (.str z) ds))
theorem knA {K : PySem.W.Frag} {A : Amb} {W : Addr → Prop} {H : Hp} {z : Str} : ∀ {xs : List V} {ds : List D}, DwA K A W H xs ds → (∀ x ∈ ds, (tyN x).isSome = true) → (∀ v ∈ xs, KnV K H v) ∧ xs.any (strIn z) = inD (.str z) ds
  | _, _, .nil, _ => ⟨fun v h => (nomatch h), rfl⟩
  | _, _, .cons (v := v) (d := d) h hs, hk => by
    obtain ⟨h1, h2⟩ := knA (z := z) hs fun x hx => hk x (List.mem_cons_of_mem _ hx)
    have hd := hk d (by simp)
    have m : mB K A H W H v d := .inl h
    have key : KnV K H v ∧ strIn z v = PyData.eqv d (.str z) := by
      cases d with
      | none => rw [m.non]; exact ⟨.non, by simp [strIn, PyData.eqv]⟩
      | bool b => rw [m.bl]; exact ⟨.bl b, by simp [strIn, PyData.eqv]⟩
      | int i => rw [m.int]; exact ⟨.int i, by simp [strIn, PyData.eqv]⟩
      | str w => rw [m.str]; exact ⟨.str w, by simp [strIn, PyData.eqv]⟩
      | list es => obtain ⟨a, ys, e, ha, _⟩ := m.lst; rw [e]; exact ⟨.lst (SqL.of ha), by simp [strIn, PyData.eqv]⟩
      | tuple es => obtain ⟨a, ys, e, ha, _⟩ := m.tup; rw [e]; exact ⟨.tup ha, by simp [strIn, PyData.eqv]⟩
      | dict kvs =>
        have tk : isTok kvs = false := by
          cases q : isTok kvs with
          | false => rfl
          | true => simp [tyN, q] at hd
        obtain ⟨a, ys, e, ha, _⟩ := m.dic tk
        rw [e]
        exact ⟨.dic ha, by simp [strIn, PyData.eqv]⟩
    refine ⟨fun w hw => ?_, ?_⟩
    · rcases List.mem_cons.mp hw with rfl | hw
      · exact key.1
      · exact h1 w hw
    · rw [List.any_cons, h2, key.2]
      rfl
theorem sim_inStrT {K : PySem.W.Frag} {neg : Bool} : OpSim K mL (rInS neg K) (dInS neg) := by
  intro A W H rs x y d1 d2 Q0 Q R m1 m2 q k
  obtain ⟨z, ds, rfl, rfl, hk, q⟩ := q
  obtain rfl := m1.str
  obtain ⟨b, ys, rfl, hb, hy⟩ := m2.tup
  obtain ⟨h1, h2⟩ := knA (z := z) hy hk
  refine ⟨z, b, ys, rfl, rfl, hb, h1, ?_⟩
  rw [h2]
  exact flat_go R k q rfl (.bl _)
variable {b : Expr}
theorem cp_eqNilT (hu : X.A.units + 64 < cLine) (hm : behindInMarks .Eq b = false := by exact nomark _) : CmpOk X .Eq b (dNilT false) := ⟨_, op_eqNilT hu, sim_nilT (neg := false), hm⟩
theorem cp_neNilT (hu : X.A.units + 64 < cLine) (hm : behindInMarks .NotEq b = false := by exact nomark _) : CmpOk X .NotEq b (dNilT true) := ⟨_, op_neNilT hu, sim_nilT (neg := true), hm⟩
theorem cp_inStrT (hu : X.A.units + 65 < cLine) (hm : behindInMarks .In b = false := by rfl) : CmpOk X .In b (dInS false) := ⟨_, op_inStrT hu, sim_inStrT (neg := false), hm⟩
end
end Sn
namespace Sn
open PySem PySem.Spec PyProof.Rows L2 TL
theorem ll_K05d_0 : ("" : Str).length = 0 := by decide +kernel
theorem ll_K05d_1 : (" " : Str).length = 1 := by decide +kernel
theorem ll_K05d_2 : ("0123456789_" : Str).length = 11 := by decide +kernel
theorem ll_K05d_3 : ("abcdefghijklmnopqrstuvwxyz0123456789_" : Str).length = 37 := by decide +kernel
theorem ll_K05d_4 : ("as ask call def each else entry except fail if in let offer return set table there try use" : Str).length = 90 := by decide +kernel
theorem ll_K05d_5 : ("built" : Str).length = 5 := by decide +kernel
theorem ll_K05d_6 : ("name" : Str).length = 4 := by decide +kernel
theorem ll_K05d_7 : ("table" : Str).length = 5 := by decide +kernel
theorem ll_K05d_8 : ("text" : Str).length = 4 := by decide +kernel
local macro_rules | `(tactic| infer_instance) => `(tactic| simp only [ty_tt, ty_ts, ty_ti, ty_tl, ty_ss, ty_st])
local macro_rules | `(tactic| infer_instance) => `(tactic| assumption)
local macro_rules | `(tactic| infer_instance) => `(tactic| dsimp only [List.set, wipeE])
local macro_rules | `(tactic| infer_instance) => `(tactic| ((with_reducible refine i_pg ?_ ?_); · assumption))
local macro_rules | `(tactic| infer_instance) => `(tactic| ((with_reducible refine i_askW ?_ ?_); · assumption))
local macro_rules | `(tactic| infer_instance) => `(tactic| ((with_reducible refine i_askN ?_ ?_); · assumption))
local macro_rules | `(tactic| infer_instance) => `(tactic| ((with_reducible refine i_okT ?_ ?_); · assumption))
local macro_rules | `(tactic| infer_instance) => `(tactic| ((with_reducible refine i_cStrF ?_ ?_); · decide +kernel))
local macro_rules | `(tactic| infer_instance) => `(tactic| ((with_reducible refine i_cStrT ?_ ?_); · rfl))
local macro_rules | `(tactic| infer_instance) => `(tactic| ((with_reducible refine i_cGF ?_ ?_); · rfl))
local macro_rules | `(tactic| infer_instance) => `(tactic| ((with_reducible refine i_cGT ?_ ?_); · rfl))
local macro_rules | `(tactic| infer_instance) => `(tactic| ((with_reducible refine i_cIntF ?_ ?_); · rfl))
local macro_rules | `(tactic| infer_instance) => `(tactic| ((with_reducible refine i_cIntT ?_ ?_); · rfl))
local macro_rules | `(tactic| infer_instance) => `(tactic| ((with_reducible apply i_appPop); (focus rfl); (focus rfl)))
local macro_rules | `(tactic| infer_instance) => `(tactic| ((with_reducible apply i_insert); · rfl))
local macro_rules | `(tactic| infer_instance) => `(tactic| ((with_reducible refine i_look2F ?_ ?_); · decide +kernel))
local macro_rules | `(tactic| infer_instance) => `(tactic| ((with_reducible refine i_look2T ?_ ?_); · rfl))
local macro_rules | `(tactic| infer_instance) => `(tactic| ((with_reducible refine i_lookF ?_ ?_); · decide +kernel))
local macro_rules | `(tactic| infer_instance) => `(tactic| ((with_reducible refine i_lookT ?_ ?_); · rfl))
local macro_rules | `(tactic| infer_instance) => `(tactic| ((with_reducible refine i_exdict ?_ ?_); · rfl))
local macro_rules | `(tactic| infer_instance) => `(tactic| ((with_reducible refine i_dget2 ?_ ?_); · rfl))
local macro_rules | `(tactic| infer_instance) => `(tactic| ((with_reducible refine i_dget ?_ ?_); · rfl))
local macro_rules | `(tactic| infer_instance) => `(tactic| ((with_reducible refine i_dispQ ?_ ?_); · decide +kernel))
local macro_rules | `(tactic| infer_instance) => `(tactic| ((with_reducible refine i_le ?_ ?_); · (simp only [List.length_append, List.length_map, List.length_replicate, List.length_cons, List.length_nil, sizeLine_eq]; omega)))
local macro_rules | `(tactic| infer_instance) => `(tactic| ((with_reducible refine i_lt ?_ ?_); · (simp only [List.length_append, List.length_map, List.length_replicate, List.length_cons, List.length_nil, sizeLine_eq]; omega)))
local macro_rules | `(tactic| infer_instance) => `(tactic| ((with_reducible refine i_addL ?_ ?_); · (simp only [List.length_append, List.length_map, List.length_replicate, List.length_cons, List.length_nil, sizeLine_eq]; omega)))
local macro_rules | `(tactic| infer_instance) => `(tactic| ((with_reducible refine i_addS ?_ ?_); · (simp only [len_app, sizeLine_eq, ll_emp, ll_K05d_0, ll_K05d_1, ll_K05d_2, ll_K05d_3, ll_K05d_4, ll_K05d_5, ll_K05d_6, ll_K05d_7, ll_K05d_8]; omega)))
local macro_rules | `(tactic| infer_instance) => `(tactic| ((with_reducible refine i_fmtS ?_ ?_); · (simp only [len_app, sizeLine_eq, ll_emp, ll_K05d_0, ll_K05d_1, ll_K05d_2, ll_K05d_3, ll_K05d_4, ll_K05d_5, ll_K05d_6, ll_K05d_7, ll_K05d_8]; omega)))
local macro_rules | `(tactic| infer_instance) => `(tactic| ((with_reducible refine i_le ?_ ?_); · (simp only [len_app, sizeLine_eq, ll_emp, ll_K05d_0, ll_K05d_1, ll_K05d_2, ll_K05d_3, ll_K05d_4, ll_K05d_5, ll_K05d_6, ll_K05d_7, ll_K05d_8]; omega)))
local macro_rules | `(tactic| infer_instance) => `(tactic| ((with_reducible apply i_ty); · rfl))
local macro_rules | `(tactic| infer_instance) => `(tactic| ((with_reducible refine i_ninTf ?_ ?_ ?_); (focus rfl); (focus (decide +kernel))))
local macro_rules | `(tactic| infer_instance) => `(tactic| ((with_reducible refine i_ninTt ?_ ?_ ?_); (focus rfl); (focus (decide +kernel))))
local macro_rules | `(tactic| infer_instance) => `(tactic| ((with_reducible refine i_inLf ?_ ?_ ?_); (focus rfl); (focus (decide +kernel))))
local macro_rules | `(tactic| infer_instance) => `(tactic| ((with_reducible refine i_inLt ?_ ?_ ?_); (focus rfl); (focus (decide +kernel))))
local macro_rules | `(tactic| infer_instance) => `(tactic| ((with_reducible refine i_inTf ?_ ?_ ?_); (focus rfl); (focus (decide +kernel))))
local macro_rules | `(tactic| infer_instance) => `(tactic| ((with_reducible refine i_inTt ?_ ?_ ?_); (focus rfl); (focus (decide +kernel))))
local macro_rules | `(tactic| infer_instance) => `(tactic| ((with_reducible apply i_extend); · rfl))
local macro_rules | `(tactic| infer_instance) => `(tactic| ((with_reducible apply i_append); · rfl))
local macro_rules | `(tactic| infer_instance) => `(tactic| ((with_reducible refine i_notNf ?_ ?_); · rfl))
local macro_rules | `(tactic| infer_instance) => `(tactic| ((with_reducible refine i_notNt ?_ ?_); · rfl))
local macro_rules | `(tactic| infer_instance) => `(tactic| ((with_reducible refine i_isNf ?_ ?_); · rfl))
local macro_rules | `(tactic| infer_instance) => `(tactic| ((with_reducible refine i_isNt ?_ ?_); · rfl))
local macro_rules | `(tactic| infer_instance) => `(tactic| ((with_reducible apply i_ixL); · rfl))
local macro_rules | `(tactic| infer_instance) => `(tactic| ((with_reducible apply i_ixT); · rfl))
local macro_rules | `(tactic| infer_instance) => `(tactic| ((with_reducible refine i_neF ?_ ?_); · decide +kernel))
local macro_rules | `(tactic| infer_instance) => `(tactic| ((with_reducible refine i_neT ?_ ?_); · rfl))
local macro_rules | `(tactic| infer_instance) => `(tactic| ((with_reducible refine i_neF ?_ ?_); · assumption))
local macro_rules | `(tactic| infer_instance) => `(tactic| ((with_reducible refine i_eqF ?_ ?_); · assumption))
local macro_rules | `(tactic| infer_instance) => `(tactic| ((with_reducible refine i_eqF ?_ ?_); · decide +kernel))
local macro_rules | `(tactic| infer_instance) => `(tactic| ((with_reducible refine i_eqT ?_ ?_); · rfl))
local macro_rules | `(tactic| infer_instance) => `(tactic| ((with_reducible refine i_dNF ?_ ?_); (focus first | decide | omega | rfl | (simp only [List.length_cons, List.length_nil]; omega))))
local macro_rules | `(tactic| infer_instance) => `(tactic| ((with_reducible refine i_dNT ?_ ?_); (focus first | decide | omega | rfl | (simp only [List.length_cons, List.length_nil]; omega))))
local macro_rules | `(tactic| infer_instance) => `(tactic| ((with_reducible refine i_dF ?_ ?_); (focus first | decide | omega | rfl | (simp only [List.length_cons, List.length_nil]; omega))))
local macro_rules | `(tactic| infer_instance) => `(tactic| ((with_reducible refine i_dT ?_ ?_); (focus first | decide | omega | rfl | (simp only [List.length_cons, List.length_nil]; omega))))
local macro_rules | `(tactic| infer_instance) => `(tactic| ((with_reducible apply i_var); · rfl))
local macro_rules | `(tactic| infer_instance) => `(tactic| (with_reducible refine St.go ?_))
def vfRes : VF := fun ds r Q => ds = [] ∧ Q (.list (resv.map .str)) r
def rowB (ns : List Int) : D → Bool
  | .tuple (.str _ :: t) => decide (((t.length + 1 : Nat) : Int) ∈ ns)
  | _ => false
def sgB : D → Bool
  | .str y => (match tl y with | [c] => decide (c ∈ tl sgnS) | _ => false)
  | _ => false
def rsB : D → Bool
  | .str z => decide (z ∈ resv)
  | _ => true
theorem isW_sg5 {z : Str} (h : isW z = true) : (∀ c ∈ tl z, c ∈ tl sgnS) ∧ z.length ≤ 8 := by
  unfold isW at h
  rw [Bool.and_eq_true] at h
  exact ⟨fun c hc => of_decide_eq_true (List.all_eq_true.mp h.2 c hc), of_decide_eq_true h.1⟩
theorem i_sqSet {i : Nat} {v : VT} {t : VTS} {N : VN} {ρ : En} {r : Rs} {d : D} (h : PV v ρ r d) (q : t N (ρ.set i (some d)) r) : vSeq (vSet i v) t N ρ r := h _ q
/-- a part's kind is right -/
def kndB : D → Bool
  | .tuple (.str z :: _) => decide (z ∈ (["text", "name"] : List Str))
  | _ => false
theorem row2_of {d : D} (h : rowB [2] d = true) : ∃ z x, d = .tuple [.str z, x] := by
  cases d with
  | tuple xs =>
    rcases xs with _ | ⟨a, t⟩
    · cases h
    · cases a with
      | str z =>
        have h := of_decide_eq_true (show decide (((t.length + 1 : Nat) : Int) ∈ ([2] : List Int)) = true from h)
        have h : ((t.length + 1 : Nat) : Int) = 2 := List.mem_singleton.mp h
        obtain ⟨x, rfl⟩ := len_1 (xs := t) (by omega)
        exact ⟨_, _, rfl⟩
      | _ => cases h
  | _ => cases h
theorem part_knd {d : D} (h : partB d = true) : rowB [2] d = true ∧ kndB d = true := by
  cases d with
  | tuple xs =>
    rcases xs with _ | ⟨a, _ | ⟨b, _ | ⟨c, t⟩⟩⟩
    · cases h
    · cases a <;> cases h
    · cases a with
      | str z =>
        have h : (decide (z = ("text" : Str)) && wB b || decide (z = ("name" : Str)) && nB b) = true := h
        refine ⟨rfl, decide_eq_true ?_⟩
        simp only [Bool.or_eq_true, Bool.and_eq_true, decide_eq_true_eq] at h
        rcases h with ⟨h, _⟩ | ⟨h, _⟩ <;> simp [h]
      | _ => cases h
    · cases a <;> cases h
  | _ => cases h
theorem part_if {z : Str} {x : D} (h : decide (z ∈ (["text", "name"] : List Str)) = true) : partB (.tuple [.str z, x]) = if decide (z = ("text" : Str)) = true then wB x else nB x := by
  have h := of_decide_eq_true h
  show (decide (z = ("text" : Str)) && wB x || decide (z = ("name" : Str)) && nB x) = _
  by_cases e : z = "text"
  · subst e
    rw [show decide (("text" : Str) = "name") = false by decide +kernel]
    simp
  · have e2 : z = "name" := by simpa [e] using h
    rw [decide_eq_false e, decide_eq_true e2]
    simp
theorem tgt_row {d : D} (h : tgtB d = true) : rowB [2, 3] d = true := by
  cases d with
  | tuple xs =>
    rcases xs with _ | ⟨a, _ | ⟨b, _ | ⟨c, _ | ⟨u, t⟩⟩⟩⟩
    · cases h
    · cases a <;> cases h
    · cases a <;> first | rfl | cases h
    · cases a <;> first | rfl | cases h
    · cases a <;> cases h
  | _ => cases h
theorem row23_of {d : D} (h : rowB [2, 3] d = true) : ∃ w b, d = .tuple [.str w, b] ∨ ∃ c, d = .tuple [.str w, b, c] := by
  cases d with
  | tuple xs =>
    rcases xs with _ | ⟨a, _ | ⟨b, _ | ⟨c, _ | ⟨u, t⟩⟩⟩⟩
    · cases h
    · cases a <;> cases h
    · cases a with
      | str w => exact ⟨_, _, .inl rfl⟩
      | _ => cases h
    · cases a with
      | str w => exact ⟨_, _, .inr ⟨_, rfl⟩⟩
      | _ => cases h
    · cases a with
      | str w =>
        have h := of_decide_eq_true (show decide ((((b :: c :: u :: t).length + 1 : Nat) : Int) ∈ ([2, 3] : List Int)) = true from h)
        simp at h
        omega
      | _ => cases h
  | _ => cases h
theorem i_sqPar2 {i j : Nat} {va vb : VT} {t : VTS} {N : VN} {ρ : En} {r : Rs} {d e : D} (ha : PV va ρ r d) (hb : PV vb ρ r e) (q : t N ((ρ.set i (some d)).set j (some e)) r) : vSeq (vPar2 i j (vCons va (vCons vb vNil))) t N ρ r := ha _ (hb _ ⟨_, _, rfl, q⟩)
def vfNmL : VF := fun ds r Q => ∃ (d : D) (lo hi : Nat), ds = [d, .int (lo : Nat), .int (hi : Nat)] ∧ Pl d ∧ Q (.bool (namesB lo hi d)) r
/-- the k-th name is one, and none ahead of it is the same -/
def namK (xs : List D) : D → Bool
  | .int i => (match xs[i.toNat]? with
    | some x => nB x && !inD x (xs.take i.toNat)
    | none => true)
  | _ => true
theorem cutTo5 (xs : List D) (k : Nat) : cutL xs none (some (k : Int)) = xs.take k := by
  unfold cutL
  rw [HT.sIx_none, HT.sIx_nat, List.drop_zero, Nat.sub_zero, ← List.take_eq_take_min]
/-- a page is its lines and an empty one -/
theorem nodup_take (ys : List Str) : (∀ (i : Nat) (h : i < ys.length), ys[i] ∉ ys.take i) ↔ ys.Nodup := by
  unfold List.Nodup
  rw [List.pairwise_iff_getElem]
  constructor
  · intro h i j hi hj hij e
    refine h j hj ?_
    rw [List.mem_take_iff_getElem]
    exact ⟨i, by omega, e⟩
  · intro h i hi hm
    obtain ⟨j, hj, e⟩ := List.mem_take_iff_getElem.mp hm
    exact h j i (by omega) hi (by omega) e
theorem names_all (xs : List D) : (rngD 0 xs.length).all (namK xs) = (xs.all nB && decide (xs.map sOf).Nodup) := by
  have key : (rngD 0 xs.length).all (namK xs) = true ↔ ∀ (i : Nat) (h : i < xs.length), (nB xs[i] && !inD xs[i] (xs.take i)) = true := by
    rw [List.all_eq_true]
    constructor
    · intro h i hi
      have := h (.int (0 + (i : Int))) (List.mem_map.mpr ⟨i, List.mem_range.mpr hi, rfl⟩)
      rw [show (0 : Int) + (i : Int) = (i : Nat) by omega] at this
      have this : (match xs[i]? with | some x => nB x && !inD x (xs.take i) | none => true) = true := this
      rw [List.getElem?_eq_getElem hi] at this
      exact this
    · intro h d hd
      obtain ⟨i, hi, rfl⟩ := List.mem_map.mp hd
      have hi := List.mem_range.mp hi
      rw [show (0 : Int) + (i : Int) = (i : Nat) by omega]
      show (match xs[i]? with | some x => nB x && !inD x (xs.take i) | none => true) = true
      rw [List.getElem?_eq_getElem hi]
      exact h i hi
  cases h : xs.all nB with
  | false =>
    rw [Bool.false_and]
    refine eq_false_of_ne_true fun q => ?_
    obtain ⟨x, hx, e⟩ := List.all_eq_false.mp h
    obtain ⟨i, hi, rfl⟩ := List.mem_iff_getElem.mp hx
    have := key.mp q i hi
    rw [Bool.and_eq_true] at this
    exact e this.1
  | true =>
    rw [Bool.true_and]
    have e := strs_ofB h
    have h2 : ∀ (i : Nat) (hi : i < xs.length), (nB xs[i] && !inD xs[i] (xs.take i)) = !decide ((xs.map sOf)[i]'(by rw [List.length_map]; exact hi) ∈ (xs.map sOf).take i) := fun i hi => by
      have e1 : nB xs[i] = true := List.all_eq_true.mp h _ (List.getElem_mem hi)
      have e2 : xs[i] = .str (sOf xs[i]) := by
        cases q : xs[i] with
        | str z => rfl
        | _ => rw [q] at e1; cases e1
      have e3 : xs.take i = ((xs.map sOf).take i).map PyData.str := by rw [List.map_take, ← e]
      rw [e1, Bool.true_and, e3, e2, inD_strs, List.getElem_map]
    rw [Bool.eq_iff_iff, key, decide_eq_true_iff, ← nodup_take]
    constructor
    · intro q i hi
      have hi2 : i < xs.length := by rwa [List.length_map] at hi
      have := q i hi2
      rw [h2 i hi2] at this
      simpa using this
    · intro q i hi
      rw [h2 i hi, decide_eq_false (q i (by rw [List.length_map]; exact hi))]
      rfl
def callG : List D → Bool
  | [x, y, _] => (isNoD x || nB x) && rowB [2, 3] y
  | _ => false
theorem fst_ne (z : Str) : (!decide (z = ("" : Str)) && fstL z) = fstL z := by
  by_cases h : z = ""
  · subst h
    decide +kernel
  · rw [decide_eq_false h]
    rfl
theorem sgn_dig : ∀ c ∈ tl sgnS, (!decide (c ∈ (("0123456789_" : Str)).cps.toList)) = decide (c ∈ tl letS) := by decide +kernel
theorem ofC_tl (z : Str) : (⟨(tl z).toArray⟩ : Str) = z := rfl
def vfRow : VF := fun ds r Q => ∃ (d : D) (ns : List Int), ds = [d, .list (ns.map .int)] ∧ Pl d ∧ 0 ∉ ns ∧ Q (.bool (rowB ns d)) r
section
variable {P : Program} {w : World} {K : PySem.W.Frag} {mg : Str → Option Value} {base : Heap}
theorem vok_resB (T : Txt K mg) : FnOk P w K mg base CX0 1 T.f_law_reserved T.fd_law_reserved [] (spV K mF vfRes) := by
  refine okV (M := mF) (O' := []) T.F_law_reserved sc_law_reserved ?_ (fun cdv A outer s H E hr => (vss_cons (vs_set (i := 0) sc_law_reserved.nd rfl (Or.inl rfl) ve_str.ve)
      (vss_one (vs_ret (ve_split (ve_var (pv 0)).vb (vab_cons ve_str.vb vab_nil)).ve)))) ?_
  · rintro ds r Q ⟨rfl, _⟩
    rfl
  · rintro ds r Q ⟨rfl, k⟩
    rw [show startV n_law_reserved [] = [none] from rfl]
    repeat infer_instance
    refine ⟨by decide +kernel, by decide +kernel, ?_⟩
    rw [show Txt.split "as ask call def each else entry except fail if in let offer return set table there try use" " " = resv by kernel_rfl]
    exact k
theorem vok_lwordB (T : Txt K mg) : FnOk P w K mg base CX0 1 T.f_law_is_word T.fd_law_is_word ["_law_worth"] (spV K mF (vfB wB)) := by
  refine okV (M := mF) (O' := []) T.F_law_is_word sc_law_is_word ?_ (fun cdv A outer s H E hr => (vss_cons (vs_set (i := 1) sc_law_is_word.nd rfl (Or.inr rfl) ve_str.ve)
      (vss_one (vs_ret (ve_and (ve_isi (Ts := "str") (by decide +kernel) (by decide +kernel) (by rfl) T.z_isinstance (by rfl) T.z_str (ve_var (pv 0)).vb).ve (ve_and (ve_cmp (cp_lt) (ve_len (by rfl) T.z_len (vab_cons (ve_var (pv 0)).vb vab_nil)).vb ve_int.vb).ve (ve_one (ve_cmp (cp_eq hr.units) (vl_lc (own := [("_law_sign", 2)]) (t := (.nm 2)) rfl sc_law_is_word.nd (vi_seq (ve_var (pv 0))) (blkOk_by (N := n_law_is_word) (sc := defScope s_law_is_word) (by decide +kernel)) (fun _ _ _ _ _ => (pg_name (i := 2) sc_law_is_word.nd rfl (Or.inl rfl))) (fun _ _ _ _ _ => (vpts_one (vt_cmp (cp_notIn (hu65 hr)) (ve_var (pv 2)).vb (ve_var (pv 1)).vb))) (fun _ _ _ _ _ => (ve_var (pv 2)))).vb (ve_lst va_nil).vb).ve))))))) ?_
  · rintro ds r Q ⟨d, rfl, _⟩
    rfl
  · rintro ds r Q ⟨d, rfl, hd, k⟩
    rw [show startV n_law_is_word [_] = [some (_), none, none] from rfl]
    refine i_sqSet pv_c ?_
    refine i_retP (d := .bool (wB d)) ?_ k
    have e : (isTx d && wB d) = wB d := by cases d <;> rfl
    refine pb_eq (pb_and (b := wB d) (pb_isS (pv_var rfl) hd) fun h => ?_) e
    obtain ⟨z, rfl⟩ := isS_of h
    have hz : z.length ≤ 1000 := by cases hd with | str h => exact h
    have hz2 : z.length ≤ sizeLine := by rw [sizeLine_eq]; omega
    refine pb_eq (pb_and (pb_cmpI (pv_lenS hz2 (pv_var rfl)) pv_c) fun _ => pb_isNil (pv_lcI (p := fun d => !sgB d) (f := id) (pp_str (pv_var rfl)) (by unfold strD; rw [List.length_map]; exact hz2) (fun d hm => ?_) fun d hm _ => pv_var rfl)) ?_
    · obtain ⟨c, hc, rfl⟩ := List.mem_map.mp hm
      exact pt_b (pb_eq (pb_nosign (pv_var rfl) (pv_var rfl)) rfl)
    · rw [filt_nil]
      show (decide ((z.length : Int) < 9) && (strD z).all sgB) = (decide (z.length ≤ 8) && (tl z).all fun c => decide (c ∈ tl sgnS))
      rw [show decide ((z.length : Int) < 9) = decide (z.length ≤ 8) from decide_eq_decide.mpr (by omega)]
      unfold strD
      rw [List.all_map]
      rfl
theorem vok_lnameB (T : Txt K mg) : FnOk P w K mg base CX0 2 T.f_law_is_name T.fd_law_is_name ["_law_worth"] (spV K mF (vfB nB)) := by
  refine okV (M := mF) (O' := []) T.F_law_is_name sc_law_is_name ?_ (fun cdv A outer s H E hr => (vss_cons (vs_if (vw_or (vt_not (vt_val (ve_call (vok_lwordB T) (hr.mono (by decide)) (by rfl) T.g_law_is_word T.F_law_is_word.kp T.b_law_is_word (va_cons (ve_var (pv 0)) va_nil)))) (vw_or1 (vt_cmp (cp_in (hu65 hr)) (ve_var (pv 0)).vb (ve_call0 (vok_resB T) (hr.mono (by decide)) (by rfl) T.g_law_reserved T.F_law_reserved.kp T.b_law_reserved).vb))).vt
        (vss_one (vs_ret ve_bl.ve))
        vss_nil)
      (vss_one (vs_ret (ve_and (ve_cmp (cp_ne hr.units) (ve_var (pv 0)).vb ve_str.vb).ve (ve_one (ve_cmp (cp_notIn (hu65 hr)) (ve_ix (ve_var (pv 0)).vb ve_int.vb).vb ve_str.vb).ve)))))) ?_
  · rintro ds r Q ⟨d, rfl, _⟩
    rfl
  · rintro ds r Q ⟨d, rfl, hd, k⟩
    rw [show startV n_law_is_name [_] = [some (_)] from rfl]
    have cw : PB (vCall (vfB wB) (vCons (vVar 0) vNil)) [some d] r (wB d) := pv_call1 (pv_var rfl) fun Q q => ⟨d, rfl, hd, q⟩
    have cr : ∀ {ρ : En}, PV (vCall vfRes vNil) ρ r (.list (resv.map .str)) := fun Q q => ⟨rfl, q⟩
    refine i_sqIf (pt_or (b := rsB d) (pt_not (pt_b cw)) fun h => ?_) (fun h => ?_) (fun h => ?_)
    · cases d with
      | str z => exact pt_b (pb_inL (pv_var rfl) cr)
      | _ => cases h
    · have e : nB d = false := by
        cases d with
        | str z =>
          have h : (!isW z || decide (z ∈ resv)) = true := h
          show (isW z && (fstL z && !decide (z ∈ resv))) = false
          cases h1 : isW z with
          | false => rfl
          | true =>
            rw [h1] at h
            rw [show decide (z ∈ resv) = true by simpa using h]
            simp
        | _ => rfl
      rw [e] at k
      exact i_retP pv_c k
    · cases d with
      | str z =>
        have h : (!isW z || decide (z ∈ resv)) = false := h
        have hw : isW z = true := by cases q : isW z with
          | true => rfl
          | false => rw [q] at h; cases h
        have hr : decide (z ∈ resv) = false := by rw [hw] at h; simpa using h
        have k : Q (.bool (isW z && (fstL z && !decide (z ∈ resv)))) r := k
        rw [hw, hr, Bool.true_and, Bool.not_false, Bool.and_true] at k
        have hz2 : z.length ≤ sizeLine := by have := (isW_sg5 hw).2; rw [sizeLine_eq]; omega
        dsimp only
        refine i_retP (pb_eq (pb_and (b := fstL z) (pb_neS (pv_var rfl)) fun h => ?_) (fst_ne z)) k
        have hne : z ≠ "" := by simpa using h
        obtain ⟨c, cs, ec⟩ : ∃ c cs, tl z = c :: cs := by
          cases e : tl z with
          | nil => exact absurd (by rw [← ofC_tl z, e]; rfl) hne
          | cons c cs => exact ⟨c, cs, rfl⟩
        refine pb_eq (pb_nosign (pv_op (pv_var rfl) pv_c fun R q => i_ixS hz2 (c := c) (by rw [show z.cps.toList = c :: cs from ec]; exact atI_nat (j := 0) (v := c) rfl) q) pv_c) ?_
        show _ = (match tl z with | [] => false | c :: _ => decide (c ∈ tl letS))
        rw [ec]
        have hc : c ∈ tl sgnS := (isW_sg5 hw).1 c (by rw [ec]; simp)
        exact sgn_dig c hc
      | _ => cases h
theorem vok_lrowB (T : Txt K mg) : FnOk P w K mg base CX0 1 T.f_law_is_row T.fd_law_is_row ["_law_worth", "_law_sizes"] (spV K mF vfRow) := by
  refine okV (M := mF) (O' := []) T.F_law_is_row sc_law_is_row ?_ (fun cdv A outer s H E hr => (vss_one (vs_ret (ve_and (ve_isi (Ts := "tuple") (by decide +kernel) (by decide +kernel) (by rfl) T.z_isinstance (by rfl) T.z_tuple (ve_var (pv 0)).vb).ve (ve_and (ve_cmp (cp_in (hu65 hr)) (ve_len (by rfl) T.z_len (vab_cons (ve_var (pv 0)).vb vab_nil)).vb (ve_var (pv 1)).vb).ve (ve_one (ve_isi (Ts := "str") (by decide +kernel) (by decide +kernel) (by rfl) T.z_isinstance (by rfl) T.z_str (ve_ix (ve_var (pv 0)).vb ve_int.vb).vb).ve)))))) ?_
  · rintro ds r Q ⟨d, ns, rfl, _⟩
    rfl
  · rintro ds r Q ⟨d, ns, rfl, hd, h0, k⟩
    rw [show startV n_law_is_row [_, .list (ns.map .int)] = [some (_), some (.list (ns.map .int))] from rfl]
    have e : (isTup d && rowB ns d) = rowB ns d := by cases d <;> rfl
    refine i_retP (pb_and (b := rowB ns d) (pb_isT (pv_var rfl) hd) fun h => ?_) (by rw [e]; exact k)
    obtain ⟨xs, rfl, hl, hx⟩ := hd.tup_of h
    refine pb_eq (pb_and (b := tupS 1 (.tuple xs)) (pb_inI (pv_lenT (pv_var rfl)) (pv_var rfl)) fun h => ?_) ?_
    · rcases xs with _ | ⟨a, t⟩
      · exact absurd (of_decide_eq_true h) h0
      · refine pb_eq (pb_isS (pv_ixT (pv_var rfl) at_0) (hx a (by simp))) ?_
        cases a <;> first | rfl | exact (by simp [tupS, isTx])
    · rcases xs with _ | ⟨a, t⟩
      · exact Bool.and_false _
      · cases a with
        | str z =>
          show (decide ((((PyData.str z :: t).length : Nat) : Int) ∈ ns) && decide (1 ≤ t.length + 1)) = decide (((t.length + 1 : Nat) : Int) ∈ ns)
          rw [decide_eq_true (show 1 ≤ t.length + 1 by omega), Bool.and_true]
          rfl
        | _ => exact Bool.and_false _
theorem vok_lnamesB (T : Txt K mg) : FnOk P w K mg base CX0 3 T.f_law_are_names T.fd_law_are_names ["_law_worth", "_law_least", "_law_most"] (spV K mF vfNmL) := by
  refine okV (M := mF) (O' := []) T.F_law_are_names sc_law_are_names ?_ (fun cdv A outer s H E hr => (vss_cons (vs_if (vw_or (vt_not (vt_val (ve_isi (Ts := "tuple") (by decide +kernel) (by decide +kernel) (by rfl) T.z_isinstance (by rfl) T.z_tuple (ve_var (pv 0)).vb).ve)) (vw_or1 (vt_not (vt_chain (cp_le) (cp_le) (ve_var (pv 1)).vb (ve_len (by rfl) T.z_len (vab_cons (ve_var (pv 0)).vb vab_nil)).vb (ve_var (pv 2)).vb)))).vt
        (vss_one (vs_ret ve_bl.ve))
        vss_nil)
      (vss_one (vs_ret (ve_cmp (cp_eq hr.units) (vl_lc (own := [("_law_k", 3)]) (t := (.nm 3)) rfl sc_law_are_names.nd (vi_rng1 (by rfl) T.z_range (vab_cons (ve_len (by rfl) T.z_len (vab_cons (ve_var (pv 0)).vb vab_nil)).vb vab_nil)) (blkOk_by (N := n_law_are_names) (sc := defScope s_law_are_names) (by decide +kernel)) (fun _ _ _ _ _ => (pg_name (i := 3) sc_law_are_names.nd rfl (Or.inl rfl))) (fun _ _ _ _ _ => (vpts_one (vw_or (vt_not (vt_val (ve_call (vok_lnameB T) (hr.mono (by decide)) (by rfl) T.g_law_is_name T.F_law_is_name.kp T.b_law_is_name (va_cons (ve_ix (ve_var (pv 0)).vb (ve_var (pv 3)).vb) va_nil)))) (vw_or1 (vt_cmp (cp_inStrT (hu65 hr)) (ve_ix (ve_var (pv 0)).vb (ve_var (pv 3)).vb).vb (ve_slice (ve_var (pv 0)).vb vo_none (vo_some (ve_var (pv 3)).vb)).vb))).vt)) (fun _ _ _ _ _ => (ve_var (pv 3)))).vb (ve_lst va_nil).vb).ve)))) ?_
  · rintro ds r Q ⟨d, lo, hi, rfl, _⟩
    rfl
  · rintro ds r Q ⟨d, lo, hi, rfl, hd, k⟩
    rw [show startV n_law_are_names [_, .int (lo : Nat), .int (hi : Nat)] = [some (_), some (.int (lo : Nat)), some (.int (hi : Nat)), none] from rfl]
    refine i_sqIf (pt_or (b := !lenIn lo hi d) (pt_not (pt_b (pb_isT (pv_var rfl) hd))) fun h => ?_) (fun h => ?_) (fun h => ?_)
    · obtain ⟨xs, rfl, hl, hx⟩ := hd.tup_of (by simpa using h)
      exact pt_eq (pt_not (pt_b (pb_chain (pv_var rfl) (pv_lenT (pv_var rfl)) (pv_var rfl)))) (by rw [lenIn_T])
    · have e : namesB lo hi d = false := by
        cases d with
        | tuple xs =>
          have h : (!lenIn lo hi (.tuple xs)) = true := h
          show (lenIn lo hi (.tuple xs) && xs.all nB && decide (xs.map sOf).Nodup) = false
          rw [show lenIn lo hi (.tuple xs) = false by simpa using h]
          rfl
        | _ => rfl
      rw [e] at k
      exact i_retP pv_c k
    · obtain ⟨xs, rfl, hl, hx⟩ := hd.tup_of (by cases e : isTup d with
        | true => rfl
        | false => rw [e] at h; cases h)
      have h : lenIn lo hi (.tuple xs) = true := by simpa [isTup] using h
      have k : Q (.bool (lenIn lo hi (.tuple xs) && xs.all nB && decide (xs.map sOf).Nodup)) r := k
      rw [h, Bool.true_and] at k
      dsimp only [vNext]
      refine i_retP (pv_eq (pb_isNil (pv_lcI (xs := rngD 0 xs.length) (p := fun d => !namK xs d) (f := id) (fun Q q => ⟨.tuple xs, rfl, _, rfl, by omega, by omega, by rw [Int.toNat_natCast]; exact q⟩) (by unfold rngD; rw [List.length_map, List.length_range, sizeLine_eq]; omega) (fun d hm => ?_) fun d hm _ => pv_var rfl)) ?_) k
      · obtain ⟨i, hil, rfl⟩ := List.mem_map.mp hm
        have hil := List.mem_range.mp hil
        obtain ⟨x, ex⟩ : ∃ x, xs[i]? = some x := ⟨_, List.getElem?_eq_getElem hil⟩
        have hxm := List.mem_of_getElem? ex
        have e0 : (0 : Int) + (i : Int) = (i : Nat) := by omega
        rw [e0]
        have vx : PV (vOp dIx (vVar 0) (vVar 3)) ((wipeE [some (.tuple xs), some (.int (lo : Nat)), some (.int (hi : Nat)), none] (List.map (fun x => x.2) [(("_law_k" : Str), 3)])).set 3 (some (.int (i : Nat)))) r x := pv_op (pv_var rfl) (pv_var rfl) fun R q => i_ixT (atI_nat ex) q
        refine pt_eq (pt_or (b := inD x (xs.take i)) (pt_not (pt_b (pv_call1 (z := .bool (nB x)) vx fun Q q => ⟨x, rfl, hx x hxm, q⟩))) fun hnb => ?_) ?_
        · cases x with
          | str z =>
            refine pt_b (pb_eq (pv_op (y := .tuple (cutL xs Option.none (some ((i : Nat) : Int)))) vx (fun Q q => ⟨_, rfl, _, rfl, _, rfl, q⟩) fun R q => ⟨z, _, rfl, rfl, fun y hy => ?_, q⟩) (congrArg (inD (.str z)) (cutTo5 xs i)))
            rw [cutTo5] at hy
            obtain ⟨n, e⟩ := (hx y (List.mem_of_mem_take hy)).some
            rw [e]
            rfl
          | _ => cases hnb
        show _ = !(match xs[i]? with | some x => nB x && !inD x (xs.take i) | none => true)
        rw [ex]
        show _ = !(nB x && !inD x (xs.take i))
        rw [Bool.not_and, Bool.not_not]
      · rw [filt_nil, names_all xs]
theorem vok_lexprB (T : Txt K mg) : FnOk P w K mg base CX0 4 T.f_law_is_expr T.fd_law_is_expr ["_law_worth"] (spV K mF (vfB exprB)) := by
  refine okV (M := mF) (O' := []) T.F_law_is_expr sc_law_is_expr ?_ (fun cdv A outer s H E hr => (vss_cons (vs_if (vw_or (vt_not (vt_val (ve_isi (Ts := "tuple") (by decide +kernel) (by decide +kernel) (by rfl) T.z_isinstance (by rfl) T.z_tuple (ve_var (pv 0)).vb).ve)) (vw_or1 (vt_not (vt_chain (cp_lt) (cp_lt) ve_int.vb (ve_len (by rfl) T.z_len (vab_cons (ve_var (pv 0)).vb vab_nil)).vb ve_int.vb)))).vt
        (vss_one (vs_ret ve_bl.ve))
        vss_nil)
      (vss_cons (vs_for (t := (.nm 1)) PassesOwn.never rfl (vi_seq (ve_var (pv 0))) (pg_name (i := 1) sc_law_is_expr.nd rfl (Or.inl rfl))
        (vss_cons (vs_if (vw_or (vt_not (vt_val (ve_call (vok_lrowB T) (hr.mono (by decide)) (by rfl) T.g_law_is_row T.F_law_is_row.kp T.b_law_is_row (va_cons (ve_var (pv 1)) (va_cons (ve_lst (va_cons ve_int.ve va_nil)).ve va_nil))))) (vw_or1 (vt_cmp (cp_notIn (hu65 hr)) (ve_ix (ve_var (pv 1)).vb ve_int.vb).vb (ve_tup (va_cons ve_str.ve (va_cons ve_str.ve va_nil))).vb))).vt
        (vss_one (vs_ret ve_bl.ve))
        vss_nil)
      (vss_one (vs_if (vt_not (vt_if (vt_cmp (cp_eq hr.units) (ve_ix (ve_var (pv 1)).vb ve_int.vb).vb ve_str.vb) (vt_val (ve_call (vok_lwordB T) (hr.mono (by decide)) (by rfl) T.g_law_is_word T.F_law_is_word.kp T.b_law_is_word (va_cons (ve_ix (ve_var (pv 1)).vb ve_int.vb) va_nil))) (vt_val (ve_call (vok_lnameB T) (hr.mono (by decide)) (by rfl) T.g_law_is_name T.F_law_is_name.kp T.b_law_is_name (va_cons (ve_ix (ve_var (pv 1)).vb ve_int.vb) va_nil)))))
        (vss_one (vs_ret ve_bl.ve))
        vss_nil))))
      (vss_one (vs_ret ve_bl.ve))))) ?_
  · rintro ds r Q ⟨d, rfl, _⟩
    rfl
  · rintro ds r Q ⟨d, rfl, hd, k⟩
    rw [show startV n_law_is_expr [_] = [some (_), none] from rfl]
    refine i_sqIf (pt_or (b := !lenIn 1 4 d) (pt_not (pt_b (pb_isT (pv_var rfl) hd))) fun h => ?_) (fun h => ?_) (fun h => ?_)
    · obtain ⟨xs, rfl, hl, hx⟩ := hd.tup_of (by simpa using h)
      refine pt_eq (pt_not (pt_b (pb_chainC pv_c (pv_lenT (pv_var rfl)) pv_c))) ?_
      show _ = !(decide (1 ≤ xs.length) && decide (xs.length ≤ 4))
      rw [show decide ((0 : Int) < (xs.length : Int)) = decide (1 ≤ xs.length) from decide_eq_decide.mpr (by omega), show decide ((xs.length : Int) < 5) = decide (xs.length ≤ 4) from decide_eq_decide.mpr (by omega)]
    · have e : exprB d = false := by
        cases d with
        | tuple xs =>
          have h : (!lenIn 1 4 (.tuple xs)) = true := h
          show (lenIn 1 4 (.tuple xs) && xs.all partB) = false
          rw [show lenIn 1 4 (.tuple xs) = false by simpa using h]
          rfl
        | _ => rfl
      rw [e] at k
      exact i_retP pv_c k
    · obtain ⟨xs, rfl, hl, hx⟩ := hd.tup_of (by cases e : isTup d with
        | true => rfl
        | false => rw [e] at h; cases h)
      have h : lenIn 1 4 (.tuple xs) = true := by simpa [isTup] using h
      have k : Q (.bool (lenIn 1 4 (.tuple xs) && xs.all partB)) r := k
      rw [h, Bool.true_and] at k
      clear h
      show vSeq _ _ _ _ _
      refine i_sqFor (pp_tup (pv_var rfl)) ?_
      refine i_forAll (ρ := [some (.tuple xs), none]) (j := 1) (w := none) (f := partB) (fun d hm nx q1 q2 => ?_) (fun e => by rw [e] at k; exact k) (fun e v => by rw [e] at k; exact k)
      have hdd := hx d hm
      show vSeq _ _ _ [some (.tuple xs), some d] _
      refine i_sqIf (pt_or (b := !kndB d) (pt_not (pt_b (pv_call2 (z := .bool (rowB [2] d)) (pv_var rfl) (y := .list (([2] : List Int).map .int)) (fun Q q => ⟨by decide +kernel, q⟩) fun Q q => ⟨d, [2], rfl, hdd, by decide, q⟩))) fun h => ?_) (fun h => ?_) (fun h => ?_)
      · obtain ⟨z, x, rfl⟩ := row2_of (by simpa using h)
        exact pt_b (pb_ninS (ys := ["text", "name"]) (pv_ixT (pv_var rfl) at_0) fun Q q => ⟨by decide +kernel, q⟩)
      · exact i_retP pv_c (q2 (by
          cases e : partB d with
          | false => rfl
          | true =>
            obtain ⟨h1, h2⟩ := part_knd e
            rw [h1, h2] at h
            cases h))
      · obtain ⟨z, x, rfl⟩ := row2_of (d := d) (by cases e : rowB [2] d with
          | true => rfl
          | false => rw [e] at h; cases h)
        have hz : decide (z ∈ (["text", "name"] : List Str)) = true := by
          have h : (!rowB [2] (.tuple [.str z, x]) || !decide (z ∈ (["text", "name"] : List Str))) = false := h
          cases e : decide (z ∈ (["text", "name"] : List Str)) with
          | true => rfl
          | false => rw [e] at h; simp at h
        have c1 : ∀ {f : D → Bool}, PB (vCall (vfB f) (vCons (vOp dIx (vVar 1) (vC (PyData.int 1))) vNil)) [some (.tuple xs), some (.tuple [.str z, x])] r (f x) := pv_call1 (pv_ixT (pv_var rfl) at_1) fun Q q => ⟨x, rfl, hdd.mem (by simp), q⟩
        clear h
        refine i_ifP (pt_not (pt_if (pt_b (pb_eqS (pv_ixT (pv_var rfl) at_0))) (fun _ => pt_b c1) fun _ => pt_b c1)) (fun h => ?_) (fun h => ?_)
        · rw [part_if hz] at q2
          exact i_retP pv_c (q2 (by simpa using h))
        · rw [part_if hz] at q1
          exact q1 (by simpa using h)
theorem vok_lcallB (T : Txt K mg) : FnOk P w K mg base CX0 5 T.f_law_is_call T.fd_law_is_call ["_law_row_here"] (spV K mF fun ds r Q => ∃ t, ds = [.tuple (.str "call" :: t)] ∧ Pl (.tuple (.str "call" :: t)) ∧ Q (.bool (stmB (fun _ => false) (.tuple (.str "call" :: t)))) r) := by
  refine okV (M := mF) (O' := []) T.F_law_is_call sc_law_is_call ?_ (fun cdv A outer s H E hr => (vss_cons (vs_if (vw_or (vt_cmp (cp_ne hr.units) (ve_len (by rfl) T.z_len (vab_cons (ve_var (pv 0)).vb vab_nil)).vb ve_int.vb) (vw_or (vt_not (vw_or (vt_cmp cp_isN (ve_ix (ve_var (pv 0)).vb ve_int.vb).vb ve_non.vb) (vw_or1 (vt_val (ve_call (vok_lnameB T) (hr.mono (by decide)) (by rfl) T.g_law_is_name T.F_law_is_name.kp T.b_law_is_name (va_cons (ve_ix (ve_var (pv 0)).vb ve_int.vb) va_nil))))).vt) (vw_or1 (vt_not (vt_val (ve_call (vok_lrowB T) (hr.mono (by decide)) (by rfl) T.g_law_is_row T.F_law_is_row.kp T.b_law_is_row (va_cons (ve_ix (ve_var (pv 0)).vb ve_int.vb) (va_cons (ve_lst (va_cons ve_int.ve (va_cons ve_int.ve va_nil))).ve va_nil)))))))).vt
        (vss_one (vs_ret ve_bl.ve))
        vss_nil)
      (vss_cons (vs_par2 (i := 1) (j := 2) (by rfl) sc_law_is_call.nd rfl rfl (by decide) rfl rfl (va_cons (ve_ix (ve_var (pv 0)).vb ve_int.vb) (va_cons (ve_ix (ve_var (pv 0)).vb ve_int.vb) va_nil)) (by rfl))
      (vss_cons (vs_if (vw_or (vt_not (vt_val (ve_isi (Ts := "tuple") (by decide +kernel) (by decide +kernel) (by rfl) T.z_isinstance (by rfl) T.z_tuple (ve_var (pv 2)).vb).ve)) (vw_or (vt_cmp (cp_gt) (ve_len (by rfl) T.z_len (vab_cons (ve_var (pv 2)).vb vab_nil)).vb ve_int.vb) (vw_or1 (vt_cmp (cp_ne hr.units) (vl_lc (own := [("_law_expr_here", 3)]) (t := (.nm 3)) rfl sc_law_is_call.nd (vi_seq (ve_var (pv 2))) (blkOk_by (N := n_law_is_call) (sc := defScope s_law_is_call) (by decide +kernel)) (fun _ _ _ _ _ => (pg_name (i := 3) sc_law_is_call.nd rfl (Or.inl rfl))) (fun _ _ _ _ _ => (vpts_one (vt_not (vt_val (ve_call (vok_lexprB T) (hr.mono (by decide)) (by rfl) T.g_law_is_expr T.F_law_is_expr.kp T.b_law_is_expr (va_cons (ve_var (pv 3)) va_nil)))))) (fun _ _ _ _ _ => (ve_var (pv 3)))).vb (ve_lst va_nil).vb)))).vt
        (vss_one (vs_ret ve_bl.ve))
        vss_nil)
      (vss_cons (vs_if (vt_cmp (cp_eq hr.units) (ve_ix (ve_var (pv 1)).vb ve_int.vb).vb ve_str.vb)
        (vss_one (vs_ret (ve_and (ve_cmp (cp_eq hr.units) (ve_len (by rfl) T.z_len (vab_cons (ve_var (pv 1)).vb vab_nil)).vb ve_int.vb).ve (ve_and (ve_call (vok_lnameB T) (hr.mono (by decide)) (by rfl) T.g_law_is_name T.F_law_is_name.kp T.b_law_is_name (va_cons (ve_ix (ve_var (pv 1)).vb ve_int.vb) va_nil)) (ve_one (ve_call (vok_lexprB T) (hr.mono (by decide)) (by rfl) T.g_law_is_expr T.F_law_is_expr.kp T.b_law_is_expr (va_cons (ve_ix (ve_var (pv 1)).vb ve_int.vb) va_nil)))))))
        vss_nil)
      (vss_cons (vs_if (vw_or (vt_cmp (cp_ne hr.units) (ve_len (by rfl) T.z_len (vab_cons (ve_var (pv 1)).vb vab_nil)).vb ve_int.vb) (vw_or1 (vt_cmp (cp_notIn (hu65 hr)) (ve_ix (ve_var (pv 1)).vb ve_int.vb).vb (ve_tup (va_cons ve_str.ve (va_cons ve_str.ve va_nil))).vb))).vt
        (vss_one (vs_ret ve_bl.ve))
        vss_nil)
      (vss_one (vs_ret (ve_if (vt_cmp (cp_eq hr.units) (ve_ix (ve_var (pv 1)).vb ve_int.vb).vb ve_str.vb) (ve_call (vok_lnameB T) (hr.mono (by decide)) (by rfl) T.g_law_is_name T.F_law_is_name.kp T.b_law_is_name (va_cons (ve_ix (ve_var (pv 1)).vb ve_int.vb) va_nil)) (ve_call (vok_lexprB T) (hr.mono (by decide)) (by rfl) T.g_law_is_expr T.F_law_is_expr.kp T.b_law_is_expr (va_cons (ve_ix (ve_var (pv 1)).vb ve_int.vb) va_nil))))))))))) ?_
  · rintro ds r Q ⟨t, rfl, _⟩
    rfl
  · rintro ds r Q ⟨t, rfl, hd, k⟩
    rw [show startV n_law_is_call [_] = [some (_), none, none, none] from rfl]
    have hnil : ∀ {ρ : En}, (∀ x y z, t ≠ [x, y, z]) → Q (.bool false) r := fun h => by
      have e : stmB (fun _ => false) (.tuple (.str "call" :: t)) = false := by
        rcases t with _ | ⟨x, _ | ⟨y, _ | ⟨u, _ | ⟨w, _ | ⟨v, t⟩⟩⟩⟩⟩ <;> first | rfl | exact absurd rfl (h _ _ _)
      rw [e] at k
      exact k
    refine i_sqIf (pt_or (b := !callG t) (pt_b (pb_neI (pv_lenT (pv_var rfl)) pv_c)) fun h => ?_) (fun h => ?_) (fun h => ?_)
    · obtain ⟨x, y, z, rfl⟩ := len_3 (xs := t) (by simp at h; omega)
      refine pt_eq (pt_or (pt_not (pt_or (pt_b (pb_isNone (pv_ixT (pv_var rfl) at_1))) fun _ => pt_b (pv_call1 (pv_ixT (pv_var rfl) at_1) fun Q q => ⟨x, rfl, hd.mem (by simp), q⟩))) fun _ => pt_not (pt_b (pv_call2 (z := .bool (rowB [2, 3] y)) (pv_ixT (pv_var rfl) at_2) (y := .list (([2, 3] : List Int).map .int)) (fun Q q => ⟨by decide +kernel, q⟩) fun Q q => ⟨y, [2, 3], rfl, hd.mem (by simp), by decide, q⟩))) ?_
      show (!(isNoD x || nB x) || !rowB [2, 3] y) = !((isNoD x || nB x) && rowB [2, 3] y)
      rw [Bool.not_and]
    · refine i_retP pv_c ?_
      by_cases e : ∃ x y z, t = [x, y, z]
      · obtain ⟨x, y, z, rfl⟩ := e
        have h : (!((isNoD x || nB x) && rowB [2, 3] y)) = true := h
        have k : Q (.bool ((isNoD x || nB x) && (tgtB y && givenB z))) r := k
        cases e1 : (isNoD x || nB x) with
        | false => rw [e1] at k; exact k
        | true =>
          rw [e1] at h
          have e2 : tgtB y = false := by
            cases q : tgtB y with
            | false => rfl
            | true => rw [tgt_row q] at h; cases h
          rw [e2, Bool.false_and, Bool.and_false] at k
          exact k
      · exact hnil (ρ := []) fun x y z q => e ⟨x, y, z, q⟩
    · have hg : callG t = true := by
        cases e : callG t with
        | true => rfl
        | false => rw [e] at h; simp at h
      obtain ⟨x, y, z, rfl⟩ : ∃ x y z, t = [x, y, z] := by
        rcases t with _ | ⟨x, _ | ⟨y, _ | ⟨z, _ | ⟨u, t⟩⟩⟩⟩
        · cases hg
        · cases hg
        · cases hg
        · exact ⟨_, _, _, rfl⟩
        · cases hg
      clear h hnil
      have hg : ((isNoD x || nB x) && rowB [2, 3] y) = true := hg
      rw [Bool.and_eq_true] at hg
      have k : Q (.bool ((isNoD x || nB x) && (tgtB y && givenB z))) r := k
      rw [hg.1, Bool.true_and] at k
      have hy : Pl y := hd.mem (by simp)
      have hz : Pl z := hd.mem (by simp)
      show vSeq _ _ _ _ _
      refine i_sqPar2 (pv_ixT (pv_var rfl) at_2) (pv_ixT (pv_var rfl) at_3) ?_
      refine i_sqIf (pt_or (b := !givenB z) (pt_not (pt_b (pb_isT (pv_var rfl) hz))) fun h => ?_) (fun h => ?_) (fun h => ?_)
      · obtain ⟨es, rfl, hl, hx⟩ := hz.tup_of (by simpa using h)
        refine pt_eq (pt_or (pt_b (pb_i0 (pv_lenT (pv_var rfl)) pv_c)) fun _ => pt_b (pb_isNilN (pv_lcI (p := fun d => !exprB d) (f := id) (pp_tup (pv_var rfl)) (by rw [sizeLine_eq]; omega) (fun d hm => pt_not (pt_b (pv_call1 (pv_var rfl) fun Q q => ⟨d, rfl, hx d hm, q⟩))) fun d hm _ => pv_var rfl))) ?_
        rw [filt_nil]
        show _ = !(decide (es.length ≤ 3) && es.all exprB)
        rw [Bool.not_and]
        congr 1
        by_cases q : es.length ≤ 3
        · rw [decide_eq_true q, decide_eq_false (by omega)]; rfl
        · rw [decide_eq_false q, decide_eq_true (by omega)]; rfl
      · have e : givenB z = false := by
          cases q : givenB z with
          | false => rfl
          | true =>
            rw [q] at h
            cases z with
            | tuple es => cases h
            | _ => cases q
        rw [e, Bool.and_false] at k
        exact i_retP pv_c k
      · have e : givenB z = true := by
          cases q : givenB z with
          | true => rfl
          | false => rw [q] at h; simp at h
        rw [e, Bool.and_true] at k
        clear h e
        show vSeq _ _ _ _ _
        have c1 : ∀ {ρ : En} {va : VT} {u : D} {f : D → Bool}, Pl u → PV va ρ r u → PB (vCall (vfB f) (vCons va vNil)) ρ r (f u) := fun hm ha => pv_call1 ha fun Q q => ⟨_, rfl, hm, q⟩
        obtain ⟨w, b, hyb⟩ := row23_of hg.2
        rcases hyb with rfl | ⟨c, rfl⟩
        · have hb : Pl b := hy.mem (by simp)
          have k : Q (.bool (decide (w = ("name" : Str)) && nB b || decide (w = ("built" : Str)) && exprB b)) r := k
          refine i_sqIf (pt_b (pb_eqS (pv_ixT (pv_var rfl) at_0))) (fun h => ?_) (fun h => ?_)
          · have h := of_decide_eq_true h
            subst h
            exact i_retP (pb_and (b := false) (pb_eqI (pv_lenT (pv_var rfl)) pv_c) fun h => absurd h (by show ¬ decide ((2 : Int) = 3) = true; decide)) k
          · show vSeq _ _ _ _ _
            refine i_sqIf (pt_or (pt_b (pb_neI (pv_lenT (pv_var rfl)) pv_c)) fun _ => pt_b (pb_ninS (ys := ["name", "built"]) (pv_ixT (pv_var rfl) at_0) fun Q q => ⟨by decide +kernel, q⟩)) (fun h => ?_) (fun h => ?_)
            · have h : w ∉ (["name", "built"] : List Str) := by
                have h : (false || !decide (w ∈ (["name", "built"] : List Str))) = true := h
                simpa using h
              rw [decide_eq_false (show ¬ w = "name" from fun e => h (by simp [e])), decide_eq_false (show ¬ w = "built" from fun e => h (by simp [e]))] at k
              exact i_retP pv_c k
            · have h : w ∈ (["name", "built"] : List Str) := by
                have h : (false || !decide (w ∈ (["name", "built"] : List Str))) = false := h
                cases q : decide (w ∈ (["name", "built"] : List Str)) with
                | true => exact of_decide_eq_true q
                | false => rw [q] at h; cases h
              refine i_retP (pv_eq (pv_if (pt_b (pb_eqS (pv_ixT (pv_var rfl) at_0))) (fun _ => c1 hb (pv_ixT (pv_var rfl) at_1)) fun _ => c1 hb (pv_ixT (pv_var rfl) at_1)) ?_) k
              by_cases e : w = "name"
              · subst e
                rw [show decide (("name" : Str) = "built") = false by decide +kernel]
                simp
              · have e2 : w = "built" := by simpa [e] using h
                rw [decide_eq_false e, decide_eq_true e2]
                simp
        · have hb : Pl b := hy.mem (by simp)
          have hc : Pl c := hy.mem (by simp)
          have k : Q (.bool (decide (w = ("table" : Str)) && nB b && exprB c)) r := k
          refine i_sqIf (pt_b (pb_eqS (pv_ixT (pv_var rfl) at_0))) (fun h => ?_) (fun h => ?_)
          · rw [h] at k
            exact i_retP (pb_and (pb_eqI (pv_lenT (pv_var rfl)) pv_c) fun _ => pb_and (c1 hb (pv_ixT (pv_var rfl) at_1)) fun _ => c1 hc (pv_ixT (pv_var rfl) at_2)) k
          · rw [h] at k
            show vSeq _ _ _ _ _
            refine i_sqIf (pt_or (b := false) (pt_b (pb_neI (pv_lenT (pv_var rfl)) pv_c)) fun h => absurd h (by show ¬ (!decide ((3 : Int) = 2)) = false; decide)) (fun h => i_retP pv_c k) (fun h => by cases h)
theorem vok_lpairsB (T : Txt K mg) : FnOk P w K mg base CX0 3 T.f_law_are_pairs T.fd_law_are_pairs ["_law_worth"] (spV K mF (vfB pairsB)) := by
  refine okV (M := mF) (O' := []) T.F_law_are_pairs sc_law_are_pairs ?_ (fun cdv A outer s H E hr => (vss_cons (vs_if (vw_or (vt_not (vt_val (ve_isi (Ts := "tuple") (by decide +kernel) (by decide +kernel) (by rfl) T.z_isinstance (by rfl) T.z_tuple (ve_var (pv 0)).vb).ve)) (vw_or1 (vt_not (vt_chain (cp_lt) (cp_lt) ve_int.vb (ve_len (by rfl) T.z_len (vab_cons (ve_var (pv 0)).vb vab_nil)).vb ve_int.vb)))).vt
        (vss_one (vs_ret ve_bl.ve))
        vss_nil)
      (vss_cons (vs_setN (i := 1) sc_law_are_pairs.nd rfl (Or.inl rfl) (ve_lst va_nil))
      (vss_cons (vs_for (t := (.nm 2)) PassesOwn.never rfl (vi_seq (ve_var (pv 0))) (pg_name (i := 2) sc_law_are_pairs.nd rfl (Or.inl rfl))
        (vss_cons (vs_if (vw_or (vt_not (vt_val (ve_call (vok_lrowB T) (hr.mono (by decide)) (by rfl) T.g_law_is_row T.F_law_is_row.kp T.b_law_is_row (va_cons (ve_var (pv 2)) (va_cons (ve_lst (va_cons ve_int.ve va_nil)).ve va_nil))))) (vw_or (vt_not (vt_val (ve_call (vok_lwordB T) (hr.mono (by decide)) (by rfl) T.g_law_is_word T.F_law_is_word.kp T.b_law_is_word (va_cons (ve_ix (ve_var (pv 2)).vb ve_int.vb) va_nil)))) (vw_or (vt_cmp (cp_eq hr.units) (ve_ix (ve_var (pv 2)).vb ve_int.vb).vb ve_str.vb) (vw_or1 (vt_not (vt_val (ve_call (vok_lnameB T) (hr.mono (by decide)) (by rfl) T.g_law_is_name T.F_law_is_name.kp T.b_law_is_name (va_cons (ve_ix (ve_var (pv 2)).vb ve_int.vb) va_nil)))))))).vt
        (vss_one (vs_ret ve_bl.ve))
        vss_nil)
      (vss_cons (vs_if (vt_cmp (cp_in (hu65 hr)) (ve_ix (ve_var (pv 2)).vb ve_int.vb).vb (vb_var (pv 1)))
        (vss_one (vs_ret ve_bl.ve))
        vss_nil)
      (vss_one (vs_append (i := 1) (pe_bm PySem.F.plainAttrs_list PySem.F.slot_list_append PySem.F.type_list_append mt_append (pv 1) (pa_cons (ve_ix (ve_var (pv 2)).vb ve_int.vb) pa_nil)))))))
      (vss_one (vs_ret ve_bl.ve)))))) ?_
  · rintro ds r Q ⟨d, rfl, _⟩
    rfl
  · rintro ds r Q ⟨d, rfl, hd, k⟩
    rw [show startV n_law_are_pairs [_] = [some (_), none, none] from rfl]
    refine i_sqIf (pt_or (b := !lenIn 1 12 d) (pt_not (pt_b (pb_isT (pv_var rfl) hd))) fun h => ?_) (fun h => ?_) (fun h => ?_)
    · obtain ⟨xs, rfl, hl, hx⟩ := hd.tup_of (by simpa using h)
      refine pt_eq (pt_not (pt_b (pb_chainC pv_c (pv_lenT (pv_var rfl)) pv_c))) ?_
      show _ = !(decide (1 ≤ xs.length) && decide (xs.length ≤ 12))
      rw [show decide ((0 : Int) < (xs.length : Int)) = decide (1 ≤ xs.length) from decide_eq_decide.mpr (by omega), show decide ((xs.length : Int) < 13) = decide (xs.length ≤ 12) from decide_eq_decide.mpr (by omega)]
    · have e : pairsB d = false := by
        cases d with
        | tuple xs =>
          have h : (!lenIn 1 12 (.tuple xs)) = true := h
          show (lenIn 1 12 (.tuple xs) && xs.all pairB && _) = false
          rw [show lenIn 1 12 (.tuple xs) = false by simpa using h]
          rfl
        | _ => rfl
      rw [e] at k
      exact i_retP pv_c k
    · obtain ⟨xs, rfl, hl, hx⟩ := hd.tup_of (by cases e : isTup d with
        | true => rfl
        | false => rw [e] at h; cases h)
      have h : lenIn 1 12 (.tuple xs) = true := by simpa [isTup] using h
      have k : Q (.bool (lenIn 1 12 (.tuple xs) && xs.all pairB && decide (xs.map fun p => sOf (at0D p)).Nodup)) r := k
      rw [h, Bool.true_and] at k
      clear h
      repeat infer_instance
      refine i_loop (fun i ρ r' => r' = r ∧ (∀ x ∈ xs.take i, pairB x = true) ∧ ((xs.take i).map fun p => sOf (at0D p)).Nodup ∧ ∃ v2, ρ = [some (.tuple xs), some (.list (((xs.take i).map fun p => sOf (at0D p)).map .str)), v2]) ⟨rfl, by simp, by simp, _, rfl⟩ ?_ ?_
      · rintro i d ρ r1 nx hdi ⟨e, hp, hnd, v2, rfl⟩ hI
        subst e
        have hm : d ∈ xs := List.mem_of_getElem? hdi
        have hdd := hx d hm
        have htk : xs.take (i + 1) = xs.take i ++ [d] := by rw [List.take_succ, hdi]; rfl
        have bad : pairB d = false → (xs.all pairB && decide (xs.map fun p => sOf (at0D p)).Nodup) = false := fun e => by
          rw [show xs.all pairB = false from by
            rw [List.all_eq_false]
            exact ⟨d, hm, by rw [e]; decide⟩]
          rfl
        refine i_bind1 ?_
        show vSeq _ _ _ [some (.tuple xs), some (.list (((xs.take i).map fun p => sOf (at0D p)).map .str)), some d] _
        refine i_sqIf (pt_or (b := !pairB d) (pt_not (pt_b (pv_call2 (z := .bool (rowB [2] d)) (pv_var rfl) (y := .list (([2] : List Int).map .int)) (fun Q q => ⟨by decide +kernel, q⟩) fun Q q => ⟨d, [2], rfl, hdd, by decide, q⟩))) fun h => ?_) (fun h => ?_) (fun h => ?_)
        · obtain ⟨z, x, rfl⟩ := row2_of (by simpa using h)
          refine pt_eq (pt_or (pt_not (pt_b (pv_call1 (z := .bool (wB (.str z))) (pv_ixT (pv_var rfl) at_0) fun Q q => ⟨.str z, rfl, hdd.mem (by simp), q⟩))) fun _ => pt_or (pt_b (pb_eqS (pv_ixT (pv_var rfl) at_0))) fun _ => pt_not (pt_b (pv_call1 (z := .bool (nB x)) (pv_ixT (pv_var rfl) at_1) fun Q q => ⟨x, rfl, hdd.mem (by simp), q⟩))) ?_
          show (!isW z || (decide (z = ("" : Str)) || !nB x)) = !(isW z && !decide (z = ("" : Str)) && nB x)
          cases isW z <;> cases decide (z = ("" : Str)) <;> cases nB x <;> rfl
        · rw [bad (by
            cases e : pairB d with
            | false => rfl
            | true =>
              obtain ⟨z, x, rfl⟩ := pairB_of e
              rw [e] at h
              cases h)] at k
          exact i_retP pv_c k
        · have hpd : pairB d = true := by
            cases e : pairB d with
            | true => rfl
            | false => rw [e] at h; simp at h
          obtain ⟨z, x, rfl⟩ := pairB_of hpd
          clear h
          show vSeq _ _ _ [some (.tuple xs), some (.list (((xs.take i).map fun p => sOf (at0D p)).map .str)), some (.tuple [.str z, x])] _
          refine i_sqIf (pt_b (pb_inL (pv_ixT (pv_var rfl) at_0) (pv_var rfl))) (fun h => ?_) (fun h => ?_)
          · have hz := of_decide_eq_true h
            have nd : ¬ (xs.map fun p => sOf (at0D p)).Nodup := fun q => by
              rw [← List.take_append_drop (i + 1) xs, htk, List.map_append, List.map_append] at q
              have q := (List.nodup_append.mp q).1
              exact (List.nodup_append.mp q).2.2 z hz z (by simp [at0D, sOf]) rfl
            rw [decide_eq_false nd, Bool.and_false] at k
            exact i_retP pv_c k
          · have hz := of_decide_eq_false h
            repeat infer_instance
            refine ⟨by rw [List.length_map, List.length_map, sizeLine_eq]; rw [List.length_take]; omega, ?_⟩
            refine hI _ _ ⟨rfl, fun y hy => ?_, ?_, some (.tuple [.str z, x]), ?_⟩
            · rw [htk] at hy
              rcases List.mem_append.mp hy with hy | hy
              · exact hp y hy
              · rw [List.mem_singleton.mp hy]; exact hpd
            · rw [htk, List.map_append, List.nodup_append]
              refine ⟨hnd, by simp, fun a ha b hb => ?_⟩
              have eb : b = z := by simpa [at0D, sOf] using hb
              rw [eb]
              exact fun q => hz (q ▸ ha)
            · rw [htk, List.map_append, List.map_append]
              rfl
      · rintro ρ r1 ⟨e, hp, hnd, v2, rfl⟩
        subst e
        rw [List.take_length] at hp hnd
        rw [List.all_eq_true.mpr hp, decide_eq_true hnd] at k
        exact k
end
end Sn
namespace Sn
open PySem PySem.Spec PyProof.Rows L2 TL
theorem ll_K05e_0 : ("" : Str).length = 0 := by decide +kernel
theorem ll_K05e_1 : ("ask" : Str).length = 3 := by decide +kernel
theorem ll_K05e_2 : ("call" : Str).length = 4 := by decide +kernel
theorem ll_K05e_3 : ("def" : Str).length = 3 := by decide +kernel
theorem ll_K05e_4 : ("each" : Str).length = 4 := by decide +kernel
theorem ll_K05e_5 : ("entry" : Str).length = 5 := by decide +kernel
theorem ll_K05e_6 : ("fail" : Str).length = 4 := by decide +kernel
theorem ll_K05e_7 : ("if" : Str).length = 2 := by decide +kernel
theorem ll_K05e_8 : ("let" : Str).length = 3 := by decide +kernel
theorem ll_K05e_9 : ("offer" : Str).length = 5 := by decide +kernel
theorem ll_K05e_10 : ("return" : Str).length = 6 := by decide +kernel
theorem ll_K05e_11 : ("set" : Str).length = 3 := by decide +kernel
theorem ll_K05e_12 : ("star" : Str).length = 4 := by decide +kernel
theorem ll_K05e_13 : ("table" : Str).length = 5 := by decide +kernel
theorem ll_K05e_14 : ("there" : Str).length = 5 := by decide +kernel
theorem ll_K05e_15 : ("try" : Str).length = 3 := by decide +kernel
theorem ll_K05e_16 : ("use" : Str).length = 3 := by decide +kernel
local macro_rules | `(tactic| infer_instance) => `(tactic| simp only [ty_tt, ty_ts, ty_ti, ty_tl, ty_ss, ty_st])
local macro_rules | `(tactic| infer_instance) => `(tactic| assumption)
local macro_rules | `(tactic| infer_instance) => `(tactic| dsimp only [List.set, wipeE])
local macro_rules | `(tactic| infer_instance) => `(tactic| ((with_reducible refine i_pg ?_ ?_); · assumption))
local macro_rules | `(tactic| infer_instance) => `(tactic| ((with_reducible refine i_askW ?_ ?_); · assumption))
local macro_rules | `(tactic| infer_instance) => `(tactic| ((with_reducible refine i_askN ?_ ?_); · assumption))
local macro_rules | `(tactic| infer_instance) => `(tactic| ((with_reducible refine i_okT ?_ ?_); · assumption))
local macro_rules | `(tactic| infer_instance) => `(tactic| ((with_reducible refine i_cStrF ?_ ?_); · decide +kernel))
local macro_rules | `(tactic| infer_instance) => `(tactic| ((with_reducible refine i_cStrT ?_ ?_); · rfl))
local macro_rules | `(tactic| infer_instance) => `(tactic| ((with_reducible refine i_cGF ?_ ?_); · rfl))
local macro_rules | `(tactic| infer_instance) => `(tactic| ((with_reducible refine i_cGT ?_ ?_); · rfl))
local macro_rules | `(tactic| infer_instance) => `(tactic| ((with_reducible refine i_cIntF ?_ ?_); · rfl))
local macro_rules | `(tactic| infer_instance) => `(tactic| ((with_reducible refine i_cIntT ?_ ?_); · rfl))
local macro_rules | `(tactic| infer_instance) => `(tactic| ((with_reducible apply i_appPop); (focus rfl); (focus rfl)))
local macro_rules | `(tactic| infer_instance) => `(tactic| ((with_reducible apply i_insert); · rfl))
local macro_rules | `(tactic| infer_instance) => `(tactic| ((with_reducible refine i_look2F ?_ ?_); · decide +kernel))
local macro_rules | `(tactic| infer_instance) => `(tactic| ((with_reducible refine i_look2T ?_ ?_); · rfl))
local macro_rules | `(tactic| infer_instance) => `(tactic| ((with_reducible refine i_lookF ?_ ?_); · decide +kernel))
local macro_rules | `(tactic| infer_instance) => `(tactic| ((with_reducible refine i_lookT ?_ ?_); · rfl))
local macro_rules | `(tactic| infer_instance) => `(tactic| ((with_reducible refine i_exdict ?_ ?_); · rfl))
local macro_rules | `(tactic| infer_instance) => `(tactic| ((with_reducible refine i_dget2 ?_ ?_); · rfl))
local macro_rules | `(tactic| infer_instance) => `(tactic| ((with_reducible refine i_dget ?_ ?_); · rfl))
local macro_rules | `(tactic| infer_instance) => `(tactic| ((with_reducible refine i_dispQ ?_ ?_); · decide +kernel))
local macro_rules | `(tactic| infer_instance) => `(tactic| ((with_reducible refine i_le ?_ ?_); · (simp only [List.length_append, List.length_map, List.length_replicate, List.length_cons, List.length_nil, sizeLine_eq]; omega)))
local macro_rules | `(tactic| infer_instance) => `(tactic| ((with_reducible refine i_lt ?_ ?_); · (simp only [List.length_append, List.length_map, List.length_replicate, List.length_cons, List.length_nil, sizeLine_eq]; omega)))
local macro_rules | `(tactic| infer_instance) => `(tactic| ((with_reducible refine i_addL ?_ ?_); · (simp only [List.length_append, List.length_map, List.length_replicate, List.length_cons, List.length_nil, sizeLine_eq]; omega)))
local macro_rules | `(tactic| infer_instance) => `(tactic| ((with_reducible refine i_addS ?_ ?_); · (simp only [len_app, sizeLine_eq, ll_emp, ll_K05e_0, ll_K05e_1, ll_K05e_2, ll_K05e_3, ll_K05e_4, ll_K05e_5, ll_K05e_6, ll_K05e_7, ll_K05e_8, ll_K05e_9, ll_K05e_10, ll_K05e_11, ll_K05e_12, ll_K05e_13, ll_K05e_14, ll_K05e_15, ll_K05e_16]; omega)))
local macro_rules | `(tactic| infer_instance) => `(tactic| ((with_reducible refine i_fmtS ?_ ?_); · (simp only [len_app, sizeLine_eq, ll_emp, ll_K05e_0, ll_K05e_1, ll_K05e_2, ll_K05e_3, ll_K05e_4, ll_K05e_5, ll_K05e_6, ll_K05e_7, ll_K05e_8, ll_K05e_9, ll_K05e_10, ll_K05e_11, ll_K05e_12, ll_K05e_13, ll_K05e_14, ll_K05e_15, ll_K05e_16]; omega)))
local macro_rules | `(tactic| infer_instance) => `(tactic| ((with_reducible refine i_le ?_ ?_); · (simp only [len_app, sizeLine_eq, ll_emp, ll_K05e_0, ll_K05e_1, ll_K05e_2, ll_K05e_3, ll_K05e_4, ll_K05e_5, ll_K05e_6, ll_K05e_7, ll_K05e_8, ll_K05e_9, ll_K05e_10, ll_K05e_11, ll_K05e_12, ll_K05e_13, ll_K05e_14, ll_K05e_15, ll_K05e_16]; omega)))
local macro_rules | `(tactic| infer_instance) => `(tactic| ((with_reducible apply i_ty); · rfl))
local macro_rules | `(tactic| infer_instance) => `(tactic| ((with_reducible refine i_ninTf ?_ ?_ ?_); (focus rfl); (focus (decide +kernel))))
local macro_rules | `(tactic| infer_instance) => `(tactic| ((with_reducible refine i_ninTt ?_ ?_ ?_); (focus rfl); (focus (decide +kernel))))
local macro_rules | `(tactic| infer_instance) => `(tactic| ((with_reducible refine i_inLf ?_ ?_ ?_); (focus rfl); (focus (decide +kernel))))
local macro_rules | `(tactic| infer_instance) => `(tactic| ((with_reducible refine i_inLt ?_ ?_ ?_); (focus rfl); (focus (decide +kernel))))
local macro_rules | `(tactic| infer_instance) => `(tactic| ((with_reducible refine i_inTf ?_ ?_ ?_); (focus rfl); (focus (decide +kernel))))
local macro_rules | `(tactic| infer_instance) => `(tactic| ((with_reducible refine i_inTt ?_ ?_ ?_); (focus rfl); (focus (decide +kernel))))
local macro_rules | `(tactic| infer_instance) => `(tactic| ((with_reducible apply i_extend); · rfl))
local macro_rules | `(tactic| infer_instance) => `(tactic| ((with_reducible apply i_append); · rfl))
local macro_rules | `(tactic| infer_instance) => `(tactic| ((with_reducible refine i_notNf ?_ ?_); · rfl))
local macro_rules | `(tactic| infer_instance) => `(tactic| ((with_reducible refine i_notNt ?_ ?_); · rfl))
local macro_rules | `(tactic| infer_instance) => `(tactic| ((with_reducible refine i_isNf ?_ ?_); · rfl))
local macro_rules | `(tactic| infer_instance) => `(tactic| ((with_reducible refine i_isNt ?_ ?_); · rfl))
local macro_rules | `(tactic| infer_instance) => `(tactic| ((with_reducible apply i_ixL); · rfl))
local macro_rules | `(tactic| infer_instance) => `(tactic| ((with_reducible apply i_ixT); · rfl))
local macro_rules | `(tactic| infer_instance) => `(tactic| ((with_reducible refine i_neF ?_ ?_); · decide +kernel))
local macro_rules | `(tactic| infer_instance) => `(tactic| ((with_reducible refine i_neT ?_ ?_); · rfl))
local macro_rules | `(tactic| infer_instance) => `(tactic| ((with_reducible refine i_neF ?_ ?_); · assumption))
local macro_rules | `(tactic| infer_instance) => `(tactic| ((with_reducible refine i_eqF ?_ ?_); · assumption))
local macro_rules | `(tactic| infer_instance) => `(tactic| ((with_reducible refine i_eqF ?_ ?_); · decide +kernel))
local macro_rules | `(tactic| infer_instance) => `(tactic| ((with_reducible refine i_eqT ?_ ?_); · rfl))
local macro_rules | `(tactic| infer_instance) => `(tactic| ((with_reducible refine i_dNF ?_ ?_); (focus first | decide | omega | rfl | (simp only [List.length_cons, List.length_nil]; omega))))
local macro_rules | `(tactic| infer_instance) => `(tactic| ((with_reducible refine i_dNT ?_ ?_); (focus first | decide | omega | rfl | (simp only [List.length_cons, List.length_nil]; omega))))
local macro_rules | `(tactic| infer_instance) => `(tactic| ((with_reducible refine i_dF ?_ ?_); (focus first | decide | omega | rfl | (simp only [List.length_cons, List.length_nil]; omega))))
local macro_rules | `(tactic| infer_instance) => `(tactic| ((with_reducible refine i_dT ?_ ?_); (focus first | decide | omega | rfl | (simp only [List.length_cons, List.length_nil]; omega))))
local macro_rules | `(tactic| infer_instance) => `(tactic| ((with_reducible apply i_var); · rfl))
local macro_rules | `(tactic| infer_instance) => `(tactic| (with_reducible refine St.go ?_))
def szD : List (D × D) := [(.str "fail", .int 1), (.str "ask", .int 2), (.str "return", .int 2), (.str "let", .int 3), (.str "try", .int 3), (.str "each", .int 4), (.str "there", .int 4), (.str "if", .int 5)]
def szOk (z : Str) : D → Bool
  | .tuple xs => PyData.eqv ((lookD szD (.inr z)).getD .none) (.int xs.length)
  | _ => false
theorem rowN_of {d : D} (h : rowB [1, 2, 3, 4, 5] d = true) : ∃ z t, d = .tuple (.str z :: t) ∧ t.length ≤ 4 := by
  cases d with
  | tuple xs =>
    rcases xs with _ | ⟨a, t⟩
    · cases h
    · cases a with
      | str w =>
        have h := of_decide_eq_true (show decide (((t.length + 1 : Nat) : Int) ∈ ([1, 2, 3, 4, 5] : List Int)) = true from h)
        simp at h
        exact ⟨w, t, rfl, by omega⟩
      | _ => cases h
  | _ => cases h
theorem stm_row {B : D → Bool} {d : D} (h : rowB [1, 2, 3, 4, 5] d = false) : stmB B d = false := by
  cases d with
  | tuple xs =>
    rcases xs with _ | ⟨a, t⟩
    · rfl
    · cases a with
      | str w =>
        rcases t with _ | ⟨x, _ | ⟨y, _ | ⟨u, _ | ⟨w, _ | ⟨v, t⟩⟩⟩⟩⟩ <;> first | rfl | (cases h; done)
      | _ => rfl
  | _ => rfl
theorem call_any {B : D → Bool} {t : List D} : stmB B (.tuple (.str "call" :: t)) = stmB (fun _ => false) (.tuple (.str "call" :: t)) := by
  rcases t with _ | ⟨x, _ | ⟨y, _ | ⟨u, _ | ⟨w, _ | ⟨v, t⟩⟩⟩⟩⟩ <;> rfl
theorem sz_cases (z : Str) : (z = "fail" ∧ lookD szD (.inr z) = some (.int 1)) ∨ (z = "ask" ∧ lookD szD (.inr z) = some (.int 2)) ∨ (z = "return" ∧ lookD szD (.inr z) = some (.int 2)) ∨ (z = "let" ∧ lookD szD (.inr z) = some (.int 3)) ∨ (z = "try" ∧ lookD szD (.inr z) = some (.int 3)) ∨ (z = "each" ∧ lookD szD (.inr z) = some (.int 4)) ∨ (z = "there" ∧ lookD szD (.inr z) = some (.int 4)) ∨ (z = "if" ∧ lookD szD (.inr z) = some (.int 5)) ∨ ((z ≠ "fail" ∧ z ≠ "ask" ∧ z ≠ "return" ∧ z ≠ "let" ∧ z ≠ "try" ∧ z ≠ "each" ∧ z ≠ "there" ∧ z ≠ "if") ∧ lookD szD (.inr z) = none) := by
  by_cases h0 : z = "fail"
  · subst h0
    exact .inl ⟨rfl, by kernel_rfl⟩
  by_cases h1 : z = "ask"
  · subst h1
    exact .inr (.inl ⟨rfl, by kernel_rfl⟩)
  by_cases h2 : z = "return"
  · subst h2
    exact .inr (.inr (.inl ⟨rfl, by kernel_rfl⟩))
  by_cases h3 : z = "let"
  · subst h3
    exact .inr (.inr (.inr (.inl ⟨rfl, by kernel_rfl⟩)))
  by_cases h4 : z = "try"
  · subst h4
    exact .inr (.inr (.inr (.inr (.inl ⟨rfl, by kernel_rfl⟩))))
  by_cases h5 : z = "each"
  · subst h5
    exact .inr (.inr (.inr (.inr (.inr (.inl ⟨rfl, by kernel_rfl⟩)))))
  by_cases h6 : z = "there"
  · subst h6
    exact .inr (.inr (.inr (.inr (.inr (.inr (.inl ⟨rfl, by kernel_rfl⟩))))))
  by_cases h7 : z = "if"
  · subst h7
    exact .inr (.inr (.inr (.inr (.inr (.inr (.inr (.inl ⟨rfl, by kernel_rfl⟩)))))))
  refine .inr (.inr (.inr (.inr (.inr (.inr (.inr (.inr (⟨⟨h0, h1, h2, h3, h4, h5, h6, h7⟩, ?_⟩))))))))
  have g0 : ("fail" : Str) ≠ z := fun e => h0 e.symm
  have g1 : ("ask" : Str) ≠ z := fun e => h1 e.symm
  have g2 : ("return" : Str) ≠ z := fun e => h2 e.symm
  have g3 : ("let" : Str) ≠ z := fun e => h3 e.symm
  have g4 : ("try" : Str) ≠ z := fun e => h4 e.symm
  have g5 : ("each" : Str) ≠ z := fun e => h5 e.symm
  have g6 : ("there" : Str) ≠ z := fun e => h6 e.symm
  have g7 : ("if" : Str) ≠ z := fun e => h7 e.symm
  simp [szD, lookD, keyOfD, g0, g1, g2, g3, g4, g5, g6, g7]
theorem sz_ne {z : Str} {t : List D} {R : D → Prop} (q : R (.bool (!szOk z (.tuple (.str z :: t))))) : dEq true ((lookD szD (.inr z)).getD .none) (.int ((PyData.str z :: t).length : Nat)) R := by
  refine ⟨.inr (.inl ?_), by rw [if_pos rfl]; exact q⟩
  rcases sz_cases z with ⟨rfl, e⟩ | ⟨rfl, e⟩ | ⟨rfl, e⟩ | ⟨rfl, e⟩ | ⟨rfl, e⟩ | ⟨rfl, e⟩ | ⟨rfl, e⟩ | ⟨rfl, e⟩ | ⟨hn, e⟩ <;> rw [e] <;> rfl
theorem sz_len {z : Str} {t : List D} {n : Int} (e : lookD szD (.inr z) = some (.int n)) : szOk z (.tuple (.str z :: t)) = decide (n = ((t.length + 1 : Nat) : Int)) := by
  unfold szOk
  rw [e]
  show PyData.eqv (.int n) (.int ((t.length + 1 : Nat) : Int)) = _
  rw [show PyData.eqv (.int n) (.int ((t.length + 1 : Nat) : Int)) = (n == ((t.length + 1 : Nat) : Int)) by simp [PyData.eqv]]
  rfl
theorem sz_none {z : Str} {t : List D} (e : lookD szD (.inr z) = none) : szOk z (.tuple (.str z :: t)) = false := by
  unfold szOk
  rw [e]
  rfl
theorem sz_forms {z : Str} {t : List D} (ht : t.length ≤ 4) (hc : z ≠ "call") (h : szOk z (.tuple (.str z :: t)) = true) : (z = "fail" ∧ t = []) ∨ (z = "ask" ∧ ∃ x, t = [x]) ∨ (z = "return" ∧ ∃ x, t = [x]) ∨ (z = "let" ∧ ∃ x y, t = [x, y]) ∨ (z = "try" ∧ ∃ x y, t = [x, y]) ∨ (z = "each" ∧ ∃ x y u, t = [x, y, u]) ∨ (z = "there" ∧ ∃ x y u, t = [x, y, u]) ∨ (z = "if" ∧ ∃ x y u v, t = [x, y, u, v]) := by
  rcases sz_cases z with ⟨rfl, e⟩ | ⟨rfl, e⟩ | ⟨rfl, e⟩ | ⟨rfl, e⟩ | ⟨rfl, e⟩ | ⟨rfl, e⟩ | ⟨rfl, e⟩ | ⟨rfl, e⟩ | ⟨hn, e⟩

  · rw [sz_len e] at h
    have h := of_decide_eq_true h
    exact .inl ⟨rfl, List.length_eq_zero_iff.mp (by omega)⟩
  · rw [sz_len e] at h
    have h := of_decide_eq_true h
    exact .inr (.inl ⟨rfl, len_1 (by omega)⟩)
  · rw [sz_len e] at h
    have h := of_decide_eq_true h
    exact .inr (.inr (.inl ⟨rfl, len_1 (by omega)⟩))
  · rw [sz_len e] at h
    have h := of_decide_eq_true h
    exact .inr (.inr (.inr (.inl ⟨rfl, len_2 (by omega)⟩)))
  · rw [sz_len e] at h
    have h := of_decide_eq_true h
    exact .inr (.inr (.inr (.inr (.inl ⟨rfl, len_2 (by omega)⟩))))
  · rw [sz_len e] at h
    have h := of_decide_eq_true h
    exact .inr (.inr (.inr (.inr (.inr (.inl ⟨rfl, len_3 (by omega)⟩)))))
  · rw [sz_len e] at h
    have h := of_decide_eq_true h
    exact .inr (.inr (.inr (.inr (.inr (.inr (.inl ⟨rfl, len_3 (by omega)⟩))))))
  · rw [sz_len e] at h
    have h := of_decide_eq_true h
    exact .inr (.inr (.inr (.inr (.inr (.inr (.inr (⟨rfl, len_4 (by omega)⟩)))))))
  · rw [sz_none e] at h
    cases h
theorem stm_sz {B : D → Bool} {z : Str} {t : List D} (hc : z ≠ "call") (h : szOk z (.tuple (.str z :: t)) = false) : stmB B (.tuple (.str z :: t)) = false := by
  rcases sz_cases z with ⟨rfl, e⟩ | ⟨rfl, e⟩ | ⟨rfl, e⟩ | ⟨rfl, e⟩ | ⟨rfl, e⟩ | ⟨rfl, e⟩ | ⟨rfl, e⟩ | ⟨rfl, e⟩ | ⟨hn, e⟩

  · rw [sz_len e] at h
    have h := of_decide_eq_false h
    rcases t with _ | ⟨x, _ | ⟨y, _ | ⟨u, _ | ⟨w, _ | ⟨v, t⟩⟩⟩⟩⟩ <;> first | (exact absurd rfl h) | rfl
  · rw [sz_len e] at h
    have h := of_decide_eq_false h
    rcases t with _ | ⟨x, _ | ⟨y, _ | ⟨u, _ | ⟨w, _ | ⟨v, t⟩⟩⟩⟩⟩ <;> first | (exact absurd rfl h) | rfl
  · rw [sz_len e] at h
    have h := of_decide_eq_false h
    rcases t with _ | ⟨x, _ | ⟨y, _ | ⟨u, _ | ⟨w, _ | ⟨v, t⟩⟩⟩⟩⟩ <;> first | (exact absurd rfl h) | rfl
  · rw [sz_len e] at h
    have h := of_decide_eq_false h
    rcases t with _ | ⟨x, _ | ⟨y, _ | ⟨u, _ | ⟨w, _ | ⟨v, t⟩⟩⟩⟩⟩ <;> first | (exact absurd rfl h) | rfl
  · rw [sz_len e] at h
    have h := of_decide_eq_false h
    rcases t with _ | ⟨x, _ | ⟨y, _ | ⟨u, _ | ⟨w, _ | ⟨v, t⟩⟩⟩⟩⟩ <;> first | (exact absurd rfl h) | rfl
  · rw [sz_len e] at h
    have h := of_decide_eq_false h
    rcases t with _ | ⟨x, _ | ⟨y, _ | ⟨u, _ | ⟨w, _ | ⟨v, t⟩⟩⟩⟩⟩ <;> first | (exact absurd rfl h) | rfl
  · rw [sz_len e] at h
    have h := of_decide_eq_false h
    rcases t with _ | ⟨x, _ | ⟨y, _ | ⟨u, _ | ⟨w, _ | ⟨v, t⟩⟩⟩⟩⟩ <;> first | (exact absurd rfl h) | rfl
  · rw [sz_len e] at h
    have h := of_decide_eq_false h
    rcases t with _ | ⟨x, _ | ⟨y, _ | ⟨u, _ | ⟨w, _ | ⟨v, t⟩⟩⟩⟩⟩ <;> first | (exact absurd rfl h) | rfl
  · obtain ⟨n0, n1, n2, n3, n4, n5, n6, n7⟩ := hn
    rcases t with _ | ⟨x, _ | ⟨y, _ | ⟨u, _ | ⟨w, _ | ⟨v, t⟩⟩⟩⟩⟩
    · exact decide_eq_false n0
    · show (decide (z = ("ask" : Str)) && nB x || decide (z = ("return" : Str)) && exprB x) = false
      rw [decide_eq_false n1, decide_eq_false n2]
      rfl
    · exact (if_neg n3).trans (if_neg n4)
    · exact (if_neg hc).trans ((if_neg n5).trans (if_neg n6))
    · exact if_neg n7
    · rfl
def szE : List (D × D) := [(.str "star", .int 2), (.str "entry", .int 2), (.str "offer", .int 2), (.str "set", .int 3), (.str "table", .int 3), (.str "use", .int 4), (.str "def", .int 4)]
def szOkI (z : Str) : D → Bool
  | .tuple xs => PyData.eqv ((lookD szE (.inr z)).getD .none) (.int xs.length)
  | _ => false
theorem szI_cases (z : Str) : (z = "star" ∧ lookD szE (.inr z) = some (.int 2)) ∨ (z = "entry" ∧ lookD szE (.inr z) = some (.int 2)) ∨ (z = "offer" ∧ lookD szE (.inr z) = some (.int 2)) ∨ (z = "set" ∧ lookD szE (.inr z) = some (.int 3)) ∨ (z = "table" ∧ lookD szE (.inr z) = some (.int 3)) ∨ (z = "use" ∧ lookD szE (.inr z) = some (.int 4)) ∨ (z = "def" ∧ lookD szE (.inr z) = some (.int 4)) ∨ ((z ≠ "star" ∧ z ≠ "entry" ∧ z ≠ "offer" ∧ z ≠ "set" ∧ z ≠ "table" ∧ z ≠ "use" ∧ z ≠ "def") ∧ lookD szE (.inr z) = none) := by
  by_cases h0 : z = "star"
  · subst h0
    exact .inl ⟨rfl, by kernel_rfl⟩
  by_cases h1 : z = "entry"
  · subst h1
    exact .inr (.inl ⟨rfl, by kernel_rfl⟩)
  by_cases h2 : z = "offer"
  · subst h2
    exact .inr (.inr (.inl ⟨rfl, by kernel_rfl⟩))
  by_cases h3 : z = "set"
  · subst h3
    exact .inr (.inr (.inr (.inl ⟨rfl, by kernel_rfl⟩)))
  by_cases h4 : z = "table"
  · subst h4
    exact .inr (.inr (.inr (.inr (.inl ⟨rfl, by kernel_rfl⟩))))
  by_cases h5 : z = "use"
  · subst h5
    exact .inr (.inr (.inr (.inr (.inr (.inl ⟨rfl, by kernel_rfl⟩)))))
  by_cases h6 : z = "def"
  · subst h6
    exact .inr (.inr (.inr (.inr (.inr (.inr (.inl ⟨rfl, by kernel_rfl⟩))))))
  refine .inr (.inr (.inr (.inr (.inr (.inr (.inr (⟨⟨h0, h1, h2, h3, h4, h5, h6⟩, ?_⟩)))))))
  have g0 : ("star" : Str) ≠ z := fun e => h0 e.symm
  have g1 : ("entry" : Str) ≠ z := fun e => h1 e.symm
  have g2 : ("offer" : Str) ≠ z := fun e => h2 e.symm
  have g3 : ("set" : Str) ≠ z := fun e => h3 e.symm
  have g4 : ("table" : Str) ≠ z := fun e => h4 e.symm
  have g5 : ("use" : Str) ≠ z := fun e => h5 e.symm
  have g6 : ("def" : Str) ≠ z := fun e => h6 e.symm
  simp [szE, lookD, keyOfD, g0, g1, g2, g3, g4, g5, g6]
theorem szI_ne {z : Str} {t : List D} {R : D → Prop} (q : R (.bool (!szOkI z (.tuple (.str z :: t))))) : dEq true ((lookD szE (.inr z)).getD .none) (.int ((PyData.str z :: t).length : Nat)) R := by
  refine ⟨.inr (.inl ?_), by rw [if_pos rfl]; exact q⟩
  rcases szI_cases z with ⟨rfl, e⟩ | ⟨rfl, e⟩ | ⟨rfl, e⟩ | ⟨rfl, e⟩ | ⟨rfl, e⟩ | ⟨rfl, e⟩ | ⟨rfl, e⟩ | ⟨hn, e⟩ <;> rw [e] <;> rfl
theorem szI_len {z : Str} {t : List D} {n : Int} (e : lookD szE (.inr z) = some (.int n)) : szOkI z (.tuple (.str z :: t)) = decide (n = ((t.length + 1 : Nat) : Int)) := by
  unfold szOkI
  rw [e]
  show PyData.eqv (.int n) (.int ((t.length + 1 : Nat) : Int)) = _
  rw [show PyData.eqv (.int n) (.int ((t.length + 1 : Nat) : Int)) = (n == ((t.length + 1 : Nat) : Int)) by simp [PyData.eqv]]
  rfl
theorem szI_none {z : Str} {t : List D} (e : lookD szE (.inr z) = none) : szOkI z (.tuple (.str z :: t)) = false := by
  unfold szOkI
  rw [e]
  rfl
theorem szI_forms {z : Str} {t : List D} (h : szOkI z (.tuple (.str z :: t)) = true) : (z = "star" ∧ ∃ x, t = [x]) ∨ (z = "entry" ∧ ∃ x, t = [x]) ∨ (z = "offer" ∧ ∃ x, t = [x]) ∨ (z = "set" ∧ ∃ x y, t = [x, y]) ∨ (z = "table" ∧ ∃ x y, t = [x, y]) ∨ (z = "use" ∧ ∃ x y u, t = [x, y, u]) ∨ (z = "def" ∧ ∃ x y u, t = [x, y, u]) := by
  rcases szI_cases z with ⟨rfl, e⟩ | ⟨rfl, e⟩ | ⟨rfl, e⟩ | ⟨rfl, e⟩ | ⟨rfl, e⟩ | ⟨rfl, e⟩ | ⟨rfl, e⟩ | ⟨hn, e⟩
  · rw [szI_len e] at h
    have h := of_decide_eq_true h
    exact .inl ⟨rfl, len_1 (by omega)⟩
  · rw [szI_len e] at h
    have h := of_decide_eq_true h
    exact .inr (.inl ⟨rfl, len_1 (by omega)⟩)
  · rw [szI_len e] at h
    have h := of_decide_eq_true h
    exact .inr (.inr (.inl ⟨rfl, len_1 (by omega)⟩))
  · rw [szI_len e] at h
    have h := of_decide_eq_true h
    exact .inr (.inr (.inr (.inl ⟨rfl, len_2 (by omega)⟩)))
  · rw [szI_len e] at h
    have h := of_decide_eq_true h
    exact .inr (.inr (.inr (.inr (.inl ⟨rfl, len_2 (by omega)⟩))))
  · rw [szI_len e] at h
    have h := of_decide_eq_true h
    exact .inr (.inr (.inr (.inr (.inr (.inl ⟨rfl, len_3 (by omega)⟩)))))
  · rw [szI_len e] at h
    have h := of_decide_eq_true h
    exact .inr (.inr (.inr (.inr (.inr (.inr (⟨rfl, len_3 (by omega)⟩))))))
  · rw [szI_none e] at h
    cases h
theorem it_row {d : D} (h : rowB [2, 3, 4] d = false) : itemB d = false := by
  cases d with
  | tuple xs =>
    rcases xs with _ | ⟨a, t⟩
    · rfl
    · cases a with
      | str w =>
        rcases t with _ | ⟨x, _ | ⟨y, _ | ⟨u, _ | ⟨v, t⟩⟩⟩⟩
        · rfl
        · cases h
        · cases h
        · cases h
        · show (if w = "offer" then decide ((((x :: y :: u :: v :: t).length : Nat) : Int) = 1) && namesB 1 12 x else if (!nB x) = true then false else false) = false
          rw [decide_eq_false (show ¬ (((x :: y :: u :: v :: t).length : Nat) : Int) = 1 by simp; omega)]
          split
          · rfl
          · split <;> rfl
      | _ => rfl
  | _ => rfl
theorem rowI_of {d : D} (h : rowB [2, 3, 4] d = true) : ∃ z t, d = .tuple (.str z :: t) := by
  cases d with
  | tuple xs =>
    rcases xs with _ | ⟨a, t⟩
    · cases h
    · cases a with
      | str w => exact ⟨w, t, rfl⟩
      | _ => cases h
  | _ => cases h
theorem it_eq {z : Str} {x : D} {t : List D} : itemB (.tuple (.str z :: x :: t)) = if z = "offer" then decide ((((x :: t).length : Nat) : Int) = 1) && namesB 1 12 x else if (!nB x) = true then false else restB z t := rfl
theorem it_sz {z : Str} {t : List D} (h : szOkI z (.tuple (.str z :: t)) = false) : itemB (.tuple (.str z :: t)) = false := by
  rcases t with _ | ⟨x, t⟩
  · rfl
  rw [it_eq]
  rcases szI_cases z with ⟨rfl, e⟩ | ⟨rfl, e⟩ | ⟨rfl, e⟩ | ⟨rfl, e⟩ | ⟨rfl, e⟩ | ⟨rfl, e⟩ | ⟨rfl, e⟩ | ⟨hn, e⟩
  · rw [szI_len e] at h
    have h := of_decide_eq_false h
    rw [if_neg (by decide +kernel)]
    rcases t with _ | ⟨y, _ | ⟨u, _ | ⟨v, t⟩⟩⟩ <;> first | (exact absurd rfl h) | (split <;> first | rfl | kernel_rfl | (simp [restB]; done))
  · rw [szI_len e] at h
    have h := of_decide_eq_false h
    rw [if_neg (by decide +kernel)]
    rcases t with _ | ⟨y, _ | ⟨u, _ | ⟨v, t⟩⟩⟩ <;> first | (exact absurd rfl h) | (split <;> first | rfl | kernel_rfl | (simp [restB]; done))
  · rw [szI_len e] at h
    have h := of_decide_eq_false h
    rw [if_pos rfl, decide_eq_false (show ¬ (((x :: t).length : Nat) : Int) = 1 from fun q => h (by simp at q ⊢; omega))]
    rfl
  · rw [szI_len e] at h
    have h := of_decide_eq_false h
    rw [if_neg (by decide +kernel)]
    rcases t with _ | ⟨y, _ | ⟨u, _ | ⟨v, t⟩⟩⟩ <;> first | (exact absurd rfl h) | (split <;> first | rfl | kernel_rfl | (simp [restB]; done))
  · rw [szI_len e] at h
    have h := of_decide_eq_false h
    rw [if_neg (by decide +kernel)]
    rcases t with _ | ⟨y, _ | ⟨u, _ | ⟨v, t⟩⟩⟩ <;> first | (exact absurd rfl h) | (split <;> first | rfl | kernel_rfl | (simp [restB]; done))
  · rw [szI_len e] at h
    have h := of_decide_eq_false h
    rw [if_neg (by decide +kernel)]
    rcases t with _ | ⟨y, _ | ⟨u, _ | ⟨v, t⟩⟩⟩ <;> first | (exact absurd rfl h) | (split <;> first | rfl | kernel_rfl | (simp [restB]; done))
  · rw [szI_len e] at h
    have h := of_decide_eq_false h
    rw [if_neg (by decide +kernel)]
    rcases t with _ | ⟨y, _ | ⟨u, _ | ⟨v, t⟩⟩⟩ <;> first | (exact absurd rfl h) | (split <;> first | rfl | kernel_rfl | (simp [restB]; done))
  · obtain ⟨n0, n1, n2, n3, n4, n5, n6⟩ := hn
    rw [if_neg n2]
    split
    · rfl
    · rcases t with _ | ⟨y, _ | ⟨u, _ | ⟨v, t⟩⟩⟩
      · exact decide_eq_false (by simp [n0, n1])
      · show (decide (z = ("set" : Str)) && wB y || decide (z = ("table" : Str)) && pairsB y) = false
        rw [decide_eq_false n3, decide_eq_false n4]
        rfl
      · exact (if_neg n5).trans (if_neg n6)
      · rfl
def ownK (ys : List Str) : D → Bool
  | .int i => (match ys[i.toNat]? with
    | some y => !decide (y ∈ ys.take i.toNat)
    | none => true)
  | _ => true
theorem own_all (ys : List Str) : (rngD 0 ys.length).all (ownK ys) = decide ys.Nodup := by
  rw [Bool.eq_iff_iff, List.all_eq_true, decide_eq_true_iff, ← nodup_take]
  constructor
  · intro h i hi
    have := h (.int (0 + (i : Int))) (List.mem_map.mpr ⟨i, List.mem_range.mpr hi, rfl⟩)
    rw [show (0 : Int) + (i : Int) = (i : Nat) by omega] at this
    have this : (match ys[i]? with | some y => !decide (y ∈ ys.take i) | none => true) = true := this
    rw [List.getElem?_eq_getElem hi] at this
    simpa using this
  · intro h d hd
    obtain ⟨i, hi, rfl⟩ := List.mem_map.mp hd
    have hi := List.mem_range.mp hi
    rw [show (0 : Int) + (i : Int) = (i : Nat) by omega]
    show (match ys[i]? with | some y => !decide (y ∈ ys.take i) | none => true) = true
    rw [List.getElem?_eq_getElem hi]
    simpa using h i hi
section
variable {P : Program} {w : World} {K : PySem.W.Frag} {mg : Str → Option Value} {base : Heap}
theorem vok_lblkB (T : Txt K mg) {n lv m : Nat} (hm : 5 ≤ m) (hn : lv + n = 4) (GS : FnOk P w K mg base CX0 m T.f_law_is_statement T.fd_law_is_statement ["_law_row_here", "_law_level"] (spV K mF (vfBl (stmB (blkB n)) lv))) : FnOk P w K mg base CX0 (m + 1) T.f_law_is_block T.fd_law_is_block ["_law_worth", "_law_level"] (spV K mF (vfBl (blkB (n + 1)) lv)) := by
  refine okV (M := mF) (O' := []) T.F_law_is_block sc_law_is_block ?_ (fun cdv A outer s H E hr => (vss_cons (vs_if (vw_or (vt_cmp (cp_gt) (ve_var (pv 1)).vb ve_int.vb) (vw_or (vt_not (vt_val (ve_isi (Ts := "tuple") (by decide +kernel) (by decide +kernel) (by rfl) T.z_isinstance (by rfl) T.z_tuple (ve_var (pv 0)).vb).ve)) (vw_or1 (vt_cmp (cp_eq hr.units) (ve_len (by rfl) T.z_len (vab_cons (ve_var (pv 0)).vb vab_nil)).vb ve_int.vb)))).vt
        (vss_one (vs_ret ve_bl.ve))
        vss_nil)
      (vss_one (vs_ret (ve_cmp (cp_eq hr.units) (vl_lc (own := [("_law_row_here", 2)]) (t := (.nm 2)) rfl sc_law_is_block.nd (vi_seq (ve_var (pv 0))) (blkOk_by (N := n_law_is_block) (sc := defScope s_law_is_block) (by decide +kernel)) (fun _ _ _ _ _ => (pg_name (i := 2) sc_law_is_block.nd rfl (Or.inl rfl))) (fun _ _ _ _ _ => (vpts_one (vt_not (vt_val (ve_call GS (hr.mono (by omega)) (by rfl) T.g_law_is_statement T.F_law_is_statement.kp T.b_law_is_statement (va_cons (ve_var (pv 2)) (va_cons (ve_var (pv 1)) va_nil))))))) (fun _ _ _ _ _ => (ve_var (pv 2)))).vb (ve_lst va_nil).vb).ve)))) ?_
  · rintro ds r Q ⟨d, rfl, _⟩
    rfl
  · rintro ds r Q ⟨d, rfl, hd, k⟩
    rw [show startV n_law_is_block [_, .int (lv : Nat)] = [some (_), some (.int (lv : Nat)), none] from rfl]
    refine i_sqIf (pt_or (b := !isTup d || lenE d) (pt_eq (b := false) (pt_b (pb_i0 (pv_var rfl) pv_c)) (decide_eq_false (by omega))) fun _ => pt_or (pt_not (pt_b (pb_isT (pv_var rfl) hd))) fun h => ?_) (fun h => ?_) (fun h => ?_)
    · obtain ⟨xs, rfl, hl, hx⟩ := hd.tup_of (by simpa using h)
      exact pt_eq (pt_b (pb_eqI (pv_lenT (pv_var rfl)) pv_c)) lenE_T.symm
    · have h : (!isTup d || lenE d) = true := h
      have e : blkB (n + 1) d = false := by
        cases d with
        | tuple xs =>
          cases xs with
          | nil => rfl
          | cons x xs => cases h
        | _ => rfl
      rw [e] at k
      exact i_retP pv_c k
    · have h : (!isTup d || lenE d) = false := h
      cases d with
      | tuple xs =>
        have hd2 := hd
        cases hd2 with
        | tup hl hx =>
          cases xs with
          | nil => cases h
          | cons x xs =>
            have k : Q (.bool ((x :: xs).all (stmB (blkB n)))) r := k
            exact i_retP (pb_eq (pb_isNil (pv_lcI (p := fun d => !stmB (blkB n) d) (f := id) (pp_tup (pv_var rfl)) (by rw [sizeLine_eq]; omega) (fun d hm => pt_not (pt_b (pv_call2 (pv_var rfl) (pv_var rfl) fun Q q => ⟨d, rfl, hx d hm, q⟩))) fun d hm _ => pv_var rfl)) (filt_nil _)) k
      | _ => cases h
theorem vok_lstmB (T : Txt K mg) {lv m : Nat} {B : D → Bool} (hm : 6 ≤ m) (GB : FnOk P w K mg base CX0 m T.f_law_is_block T.fd_law_is_block ["_law_worth", "_law_level"] (spV K mF (vfBl B (lv + 1)))) : FnOk P w K mg base CX0 (m + 1) T.f_law_is_statement T.fd_law_is_statement ["_law_row_here", "_law_level"] (spV K mF (vfBl (stmB B) lv)) := by
  refine okV (M := mF) (O' := []) T.F_law_is_statement sc_law_is_statement ?_ (fun cdv A outer s H E hr => (vss_cons (vs_if (vt_not (vt_val (ve_call (vok_lrowB T) (hr.mono (by omega)) (by rfl) T.g_law_is_row T.F_law_is_row.kp T.b_law_is_row (va_cons (ve_var (pv 0)) (va_cons (ve_lst (va_cons ve_int.ve (va_cons ve_int.ve (va_cons ve_int.ve (va_cons ve_int.ve (va_cons ve_int.ve va_nil)))))).ve va_nil)))))
        (vss_one (vs_ret ve_bl.ve))
        vss_nil)
      (vss_cons (vs_par2 (i := 2) (j := 3) (by rfl) sc_law_is_statement.nd rfl rfl (by decide) rfl rfl (va_cons (ve_ix (ve_var (pv 0)).vb ve_int.vb) (va_cons (ve_len (by rfl) T.z_len (vab_cons (ve_var (pv 0)).vb vab_nil)).ve va_nil)) (by rfl))
      (vss_cons (vs_if (vt_cmp (cp_eq hr.units) (ve_var (pv 2)).vb ve_str.vb)
        (vss_one (vs_ret (ve_call (vok_lcallB T) (hr.mono (by omega)) (by rfl) T.g_law_is_call T.F_law_is_call.kp T.b_law_is_call (va_cons (ve_var (pv 0)) va_nil))))
        vss_nil)
      (vss_cons (vs_if (vt_cmp (cp_ne hr.units) (ve_dget1 (hu_of hr) (ve_disp (vps_cons ve_str.ve ve_int.ve (vps_cons ve_str.ve ve_int.ve (vps_cons ve_str.ve ve_int.ve (vps_cons ve_str.ve ve_int.ve (vps_cons ve_str.ve ve_int.ve (vps_cons ve_str.ve ve_int.ve (vps_cons ve_str.ve ve_int.ve (vps_cons ve_str.ve ve_int.ve vps_nil)))))))) (by rfl) (by rfl) (by simp) (by decide)).vb (ve_var (pv 2)).vb ⟨by rfl, by rfl, by rfl, by rfl⟩).vb (ve_var (pv 3)).vb)
        (vss_one (vs_ret ve_bl.ve))
        vss_nil)
      (vss_cons (vs_if (vw_and (vt_cmp (cp_in (hu65 hr)) (ve_var (pv 2)).vb (ve_tup (va_cons ve_str.ve (va_cons ve_str.ve (va_cons ve_str.ve va_nil)))).vb) (vw_and1 (vt_not (vt_val (ve_call (vok_lnameB T) (hr.mono (by omega)) (by rfl) T.g_law_is_name T.F_law_is_name.kp T.b_law_is_name (va_cons (ve_ix (ve_var (pv 0)).vb ve_int.vb) va_nil)))))).vt
        (vss_one (vs_ret ve_bl.ve))
        vss_nil)
      (vss_cons (vs_if (vw_or (vw_and (vt_cmp (cp_in (hu65 hr)) (ve_var (pv 2)).vb (ve_tup (va_cons ve_str.ve (va_cons ve_str.ve (va_cons ve_str.ve va_nil)))).vb) (vw_and1 (vt_not (vt_val (ve_call (vok_lexprB T) (hr.mono (by omega)) (by rfl) T.g_law_is_expr T.F_law_is_expr.kp T.b_law_is_expr (va_cons (ve_ix (ve_var (pv 0)).vb ve_int.vb) va_nil)))))).vt (vw_or1 (vw_and (vt_cmp (cp_eq hr.units) (ve_var (pv 2)).vb ve_str.vb) (vw_and1 (vt_not (vt_val (ve_call (vok_lexprB T) (hr.mono (by omega)) (by rfl) T.g_law_is_expr T.F_law_is_expr.kp T.b_law_is_expr (va_cons (ve_ix (ve_var (pv 0)).vb ve_int.vb) va_nil)))))).vt)).vt
        (vss_one (vs_ret ve_bl.ve))
        vss_nil)
      (vss_cons (vs_if (vw_and (vt_cmp (cp_in (hu65 hr)) (ve_var (pv 2)).vb (ve_tup (va_cons ve_str.ve (va_cons ve_str.ve va_nil))).vb) (vw_and1 (vt_not (vt_val (ve_call (vok_lwordB T) (hr.mono (by omega)) (by rfl) T.g_law_is_word T.F_law_is_word.kp T.b_law_is_word (va_cons (ve_ix (ve_var (pv 0)).vb ve_int.vb) va_nil)))))).vt
        (vss_one (vs_ret ve_bl.ve))
        vss_nil)
      (vss_cons (vs_set (i := 4) sc_law_is_statement.nd rfl (Or.inl rfl) (ve_dget2 (hu_of hr) (ve_disp (vps_cons ve_str.ve (ve_lst (va_cons (ve_ix (ve_var (pv 0)).vb (ve_sub (ve_var (pv 3)).vb ve_int.vb).vb) va_nil)).ve (vps_cons ve_str.ve (ve_lst (va_cons (ve_ix (ve_var (pv 0)).vb (ve_sub (ve_var (pv 3)).vb ve_int.vb).vb) (va_cons (ve_ix (ve_var (pv 0)).vb (ve_sub (ve_var (pv 3)).vb ve_int.vb).vb) va_nil))).ve vps_nil)) (by rfl) (by rfl) (by simp) (by decide)).vb (ve_var (pv 2)).vb (ve_lst va_nil).ve ⟨by rfl, by rfl, by rfl, by rfl⟩))
      (vss_cons (vs_if (vt_cmp (cp_in (hu65 hr)) (ve_var (pv 2)).vb (ve_tup (va_cons ve_str.ve (va_cons ve_str.ve va_nil))).vb)
        (vss_cons (vs_set (i := 4) sc_law_is_statement.nd rfl (Or.inl rfl) (ve_lst (va_cons (ve_ix (ve_var (pv 0)).vb (ve_sub (ve_var (pv 3)).vb ve_int.vb).vb) (va_cons (ve_ix (ve_var (pv 0)).vb (ve_sub (ve_var (pv 3)).vb ve_int.vb).vb) va_nil))).ve)
      (vss_one (vs_if (vw_and (vt_val (ve_isi (Ts := "tuple") (by decide +kernel) (by decide +kernel) (by rfl) T.z_isinstance (by rfl) T.z_tuple (ve_ix (ve_var (pv 0)).vb (ve_sub (ve_var (pv 3)).vb ve_int.vb).vb).vb).ve) (vw_and1 (vt_cmp (cp_eq hr.units) (ve_len (by rfl) T.z_len (vab_cons (ve_ix (ve_var (pv 0)).vb (ve_sub (ve_var (pv 3)).vb ve_int.vb).vb).vb vab_nil)).vb ve_int.vb))).vt
        (vss_one (vs_set (i := 4) sc_law_is_statement.nd rfl (Or.inl rfl) (ve_lst (va_cons (ve_ix (ve_var (pv 0)).vb (ve_sub (ve_var (pv 3)).vb ve_int.vb).vb) va_nil)).ve))
        vss_nil)))
        vss_nil)
      (vss_one (vs_ret (ve_cmp (cp_eq hr.units) (vl_lc (own := [("_law_block_here", 5)]) (t := (.nm 5)) rfl sc_law_is_statement.nd (vi_seq (ve_var (pv 4))) (blkOk_by (N := n_law_is_statement) (sc := defScope s_law_is_statement) (by decide +kernel)) (fun _ _ _ _ _ => (pg_name (i := 5) sc_law_is_statement.nd rfl (Or.inl rfl))) (fun _ _ _ _ _ => (vpts_one (vt_not (vt_val (ve_call GB (hr.mono (by omega)) (by rfl) T.g_law_is_block T.F_law_is_block.kp T.b_law_is_block (va_cons (ve_var (pv 5)) (va_cons (ve_add (ve_var (pv 1)).vb ve_int.vb).ve va_nil))))))) (fun _ _ _ _ _ => (ve_var (pv 5)))).vb (ve_lst va_nil).vb).ve)))))))))))) ?_
  · rintro ds r Q ⟨d, rfl, _⟩
    rfl
  · rintro ds r Q ⟨d, rfl, hd, k⟩
    rw [show startV n_law_is_statement [_, .int (lv : Nat)] = [some (_), some (.int (lv : Nat)), none, none, none, none] from rfl]
    refine i_sqIf (pt_not (pt_b (pv_call2 (z := .bool (rowB [1, 2, 3, 4, 5] d)) (pv_var rfl) (y := .list (([1, 2, 3, 4, 5] : List Int).map .int)) (fun Q q => ⟨by decide +kernel, q⟩) fun Q q => ⟨d, [1, 2, 3, 4, 5], rfl, hd, by decide, q⟩))) (fun h => ?_) (fun h => ?_)
    · rw [stm_row (B := B) (d := d) (by simpa using h)] at k
      exact i_retP pv_c k
    · obtain ⟨z, t, rfl, ht⟩ := rowN_of (d := d) (by simpa using h)
      clear h
      show vSeq _ _ _ _ _
      refine i_sqPar2 (pv_ixT (pv_var rfl) at_0) (pv_lenT (pv_var rfl)) ?_
      refine i_sqIf (pt_b (pb_eqS (pv_var rfl))) (fun h => ?_) (fun h => ?_)
      · have h := of_decide_eq_true h
        subst h
        exact i_retP (pv_call1 (z := .bool (stmB B (.tuple (.str "call" :: t)))) (pv_var rfl) fun Q q => ⟨t, rfl, hd, by rw [← call_any (B := B)]; exact q⟩) k
      have hc := of_decide_eq_false h
      clear h
      show vSeq _ _ _ _ _
      refine i_sqIf (pt_b (pv_op (z := .bool (!szOk z (.tuple (.str z :: t)))) (pv_get1 (kvs := szD) (pv_dispC (ps := szD) (by kernel_rfl)) (by kernel_rfl) (pv_var rfl)) (pv_var rfl) fun R q => ?_)) (fun h => ?_) (fun h => ?_)
      · exact sz_ne q
      · rw [stm_sz (B := B) hc (by simpa using h)] at k
        exact i_retP pv_c k
      have h := sz_forms ht hc (by simpa using h)
      have cb : ∀ {ρ : En} {va : VT} {x : D}, ρ[1]? = some (some (.int (lv : Nat))) → x ∈ (PyData.str z :: t) → PV va ρ r x → PB (vCall (vfBl B (lv + 1)) (vCons va (vCons (vOp dAdd (vVar 1) (vC (PyData.int 1))) vNil))) ρ r (B x) := fun h1 hm ha => pv_call2 ha (pv_op (pv_var h1) pv_c fun R q => i_addI q) fun Q q => ⟨_, rfl, hd.mem hm, q⟩
      have c1 : ∀ {ρ : En} {va : VT} {x : D} {f : D → Bool}, x ∈ (PyData.str z :: t) → PV va ρ r x → PB (vCall (vfB f) (vCons va vNil)) ρ r (f x) := fun hm ha => pv_call1 ha fun Q q => ⟨_, rfl, hd.mem hm, q⟩
      rcases h with ⟨rfl, rfl⟩ | ⟨rfl, x, rfl⟩ | ⟨rfl, x, rfl⟩ | ⟨rfl, x, y, rfl⟩ | ⟨rfl, x, y, rfl⟩ | ⟨rfl, x, y, z, rfl⟩ | ⟨rfl, x, y, z, rfl⟩ | ⟨rfl, x, y, z, u, rfl⟩
      · have e : stmB B (.tuple [.str "fail"]) = (true) := by kernel_rfl
        rw [e] at k
        clear e
        show vSeq _ _ _ _ _
        refine i_sqIf (pt_and (b := true) (pt_b (pb_inS (ys := ["ask", "let", "each"]) (pv_var rfl) (fun Q q => ⟨by decide +kernel, q⟩))) fun h => absurd h (by decide +kernel)) (fun h => ?_) (fun h => ?_)
        · exact absurd h (by decide +kernel)
        clear h
        show vSeq _ _ _ _ _
        refine i_sqIf (pt_or (pt_and (b := true) (pt_b (pb_inS (ys := ["return", "there", "if"]) (pv_var rfl) (fun Q q => ⟨by decide +kernel, q⟩))) fun h => absurd h (by decide +kernel)) fun _ => pt_and (b := true) (pt_b (pb_eqS (pv_var rfl))) fun h => absurd h (by decide +kernel)) (fun h => ?_) (fun h => ?_)
        · exact absurd h (by decide +kernel)
        clear h
        show vSeq _ _ _ _ _
        refine i_sqIf (pt_and (b := true) (pt_b (pb_inS (ys := ["each", "if"]) (pv_var rfl) (fun Q q => ⟨by decide +kernel, q⟩))) fun h => absurd h (by decide +kernel)) (fun h => ?_) (fun h => ?_)
        · exact absurd h (by decide +kernel)
        clear h
        show vSeq _ _ _ _ _
        refine i_sqSet (pv_get2 (kvs := [(.str "each", .list [.str "fail"]), (.str "try", .list [.str "fail", .str "fail"])]) (pv_disp2 (pv_lst1 (pv_op (pv_var rfl) (pv_subI (pv_var rfl) pv_c) fun R q => i_ixT (d := .str "fail") (by kernel_rfl) q)) (pv_lst2 (pv_op (pv_var rfl) (pv_subI (pv_var rfl) pv_c) fun R q => i_ixT (d := .str "fail") (by kernel_rfl) q) (pv_op (pv_var rfl) (pv_subI (pv_var rfl) pv_c) fun R q => i_ixT (d := .str "fail") (by kernel_rfl) q)) (by kernel_rfl)) rfl (pv_var rfl) pv_lst0) ?_
        rw [show (lookD [(PyData.str "each", PyData.list [.str "fail"]), (.str "try", .list [.str "fail", .str "fail"])] (.inr "fail")).getD (.list []) = .list [] by kernel_rfl]
        show vSeq _ _ _ _ _
        refine i_sqIf (b := false) (pt_eq (pt_b (pb_inS (ys := ["there", "if"]) (pv_var rfl) (fun Q q => ⟨by decide +kernel, q⟩))) (by decide +kernel)) (fun h => by cases h) (fun _ => ?_)
        dsimp only [vNext]
        exact i_retP (pb_eq (pb_isNil (pv_lcI (xs := []) (p := fun d => !B d) (f := id) (pp_list (pv_var rfl)) (by simp [sizeLine_eq]) (fun d hm => pt_not (pt_b (cb rfl (by first | (simp at hm; done) | (simp at hm; simp [hm])) (pv_var rfl)))) fun d hm _ => pv_var rfl)) (filt_nil _)) (by simpa using k)
      · have e : stmB B (.tuple [.str "ask", x]) = (nB x) := by show (decide (("ask" : Str) = "ask") && nB x || decide (("ask" : Str) = "return") && exprB x) = _; rw [decide_eq_true rfl, decide_eq_false (show ¬ ("ask" : Str) = "return" by decide +kernel)]; simp
        rw [e] at k
        clear e
        show vSeq _ _ _ _ _
        refine i_sqIf (pt_and (pt_b (pb_inS (ys := ["ask", "let", "each"]) (pv_var rfl) (fun Q q => ⟨by decide +kernel, q⟩))) fun _ => pt_not (pt_b (c1 (f := nB) (by simp) (pv_ixT (pv_var rfl) at_1)))) (fun h => ?_) (fun h => ?_)
        · have h : nB x = false := by simpa using h
          rw [h] at k
          exact i_retP pv_c k
        have h : nB x = true := by simpa using h
        rw [h] at k
        clear h
        show vSeq _ _ _ _ _
        refine i_sqIf (pt_or (pt_and (b := true) (pt_b (pb_inS (ys := ["return", "there", "if"]) (pv_var rfl) (fun Q q => ⟨by decide +kernel, q⟩))) fun h => absurd h (by decide +kernel)) fun _ => pt_and (b := true) (pt_b (pb_eqS (pv_var rfl))) fun h => absurd h (by decide +kernel)) (fun h => ?_) (fun h => ?_)
        · exact absurd h (by decide +kernel)
        clear h
        show vSeq _ _ _ _ _
        refine i_sqIf (pt_and (b := true) (pt_b (pb_inS (ys := ["each", "if"]) (pv_var rfl) (fun Q q => ⟨by decide +kernel, q⟩))) fun h => absurd h (by decide +kernel)) (fun h => ?_) (fun h => ?_)
        · exact absurd h (by decide +kernel)
        clear h
        show vSeq _ _ _ _ _
        refine i_sqSet (pv_get2 (kvs := [(.str "each", .list [x]), (.str "try", .list [.str "ask", x])]) (pv_disp2 (pv_lst1 (pv_op (pv_var rfl) (pv_subI (pv_var rfl) pv_c) fun R q => i_ixT (d := x) (by kernel_rfl) q)) (pv_lst2 (pv_op (pv_var rfl) (pv_subI (pv_var rfl) pv_c) fun R q => i_ixT (d := .str "ask") (by kernel_rfl) q) (pv_op (pv_var rfl) (pv_subI (pv_var rfl) pv_c) fun R q => i_ixT (d := x) (by kernel_rfl) q)) (by kernel_rfl)) rfl (pv_var rfl) pv_lst0) ?_
        rw [show (lookD [(PyData.str "each", PyData.list [x]), (.str "try", .list [.str "ask", x])] (.inr "ask")).getD (.list []) = .list [] by kernel_rfl]
        show vSeq _ _ _ _ _
        refine i_sqIf (b := false) (pt_eq (pt_b (pb_inS (ys := ["there", "if"]) (pv_var rfl) (fun Q q => ⟨by decide +kernel, q⟩))) (by decide +kernel)) (fun h => by cases h) (fun _ => ?_)
        dsimp only [vNext]
        exact i_retP (pb_eq (pb_isNil (pv_lcI (xs := []) (p := fun d => !B d) (f := id) (pp_list (pv_var rfl)) (by simp [sizeLine_eq]) (fun d hm => pt_not (pt_b (cb rfl (by first | (simp at hm; done) | (simp at hm; simp [hm])) (pv_var rfl)))) fun d hm _ => pv_var rfl)) (filt_nil _)) (by simpa using k)
      · have e : stmB B (.tuple [.str "return", x]) = (exprB x) := by show (decide (("return" : Str) = "ask") && nB x || decide (("return" : Str) = "return") && exprB x) = _; rw [decide_eq_true rfl, decide_eq_false (show ¬ ("return" : Str) = "ask" by decide +kernel)]; simp
        rw [e] at k
        clear e
        show vSeq _ _ _ _ _
        refine i_sqIf (pt_and (b := true) (pt_b (pb_inS (ys := ["ask", "let", "each"]) (pv_var rfl) (fun Q q => ⟨by decide +kernel, q⟩))) fun h => absurd h (by decide +kernel)) (fun h => ?_) (fun h => ?_)
        · exact absurd h (by decide +kernel)
        clear h
        show vSeq _ _ _ _ _
        refine i_sqIf (pt_or (pt_and (pt_b (pb_inS (ys := ["return", "there", "if"]) (pv_var rfl) (fun Q q => ⟨by decide +kernel, q⟩))) fun _ => pt_not (pt_b (c1 (f := exprB) (by simp) (pv_ixT (pv_var rfl) at_1)))) fun _ => pt_and (b := true) (pt_b (pb_eqS (pv_var rfl))) fun h => absurd h (by decide +kernel)) (fun h => ?_) (fun h => ?_)
        · have h : exprB x = false := by
            cases q : exprB x with
            | false => rfl
            | true => rw [q] at h; exact absurd h (by decide +kernel)
          rw [h] at k
          exact i_retP pv_c k
        have h : exprB x = true := by
          cases q : exprB x with
          | true => rfl
          | false => rw [q] at h; exact absurd h (by decide +kernel)
        rw [h] at k
        clear h
        show vSeq _ _ _ _ _
        refine i_sqIf (pt_and (b := true) (pt_b (pb_inS (ys := ["each", "if"]) (pv_var rfl) (fun Q q => ⟨by decide +kernel, q⟩))) fun h => absurd h (by decide +kernel)) (fun h => ?_) (fun h => ?_)
        · exact absurd h (by decide +kernel)
        clear h
        show vSeq _ _ _ _ _
        refine i_sqSet (pv_get2 (kvs := [(.str "each", .list [x]), (.str "try", .list [.str "return", x])]) (pv_disp2 (pv_lst1 (pv_op (pv_var rfl) (pv_subI (pv_var rfl) pv_c) fun R q => i_ixT (d := x) (by kernel_rfl) q)) (pv_lst2 (pv_op (pv_var rfl) (pv_subI (pv_var rfl) pv_c) fun R q => i_ixT (d := .str "return") (by kernel_rfl) q) (pv_op (pv_var rfl) (pv_subI (pv_var rfl) pv_c) fun R q => i_ixT (d := x) (by kernel_rfl) q)) (by kernel_rfl)) rfl (pv_var rfl) pv_lst0) ?_
        rw [show (lookD [(PyData.str "each", PyData.list [x]), (.str "try", .list [.str "return", x])] (.inr "return")).getD (.list []) = .list [] by kernel_rfl]
        show vSeq _ _ _ _ _
        refine i_sqIf (b := false) (pt_eq (pt_b (pb_inS (ys := ["there", "if"]) (pv_var rfl) (fun Q q => ⟨by decide +kernel, q⟩))) (by decide +kernel)) (fun h => by cases h) (fun _ => ?_)
        dsimp only [vNext]
        exact i_retP (pb_eq (pb_isNil (pv_lcI (xs := []) (p := fun d => !B d) (f := id) (pp_list (pv_var rfl)) (by simp [sizeLine_eq]) (fun d hm => pt_not (pt_b (cb rfl (by first | (simp at hm; done) | (simp at hm; simp [hm])) (pv_var rfl)))) fun d hm _ => pv_var rfl)) (filt_nil _)) (by simpa using k)
      · have e : stmB B (.tuple [.str "let", x, y]) = (nB x && exprB y) := by kernel_rfl
        rw [e] at k
        clear e
        show vSeq _ _ _ _ _
        refine i_sqIf (pt_and (pt_b (pb_inS (ys := ["ask", "let", "each"]) (pv_var rfl) (fun Q q => ⟨by decide +kernel, q⟩))) fun _ => pt_not (pt_b (c1 (f := nB) (by simp) (pv_ixT (pv_var rfl) at_1)))) (fun h => ?_) (fun h => ?_)
        · have h : nB x = false := by simpa using h
          rw [h] at k
          exact i_retP pv_c k
        have h : nB x = true := by simpa using h
        rw [h, Bool.true_and] at k
        clear h
        show vSeq _ _ _ _ _
        refine i_sqIf (pt_or (pt_and (b := true) (pt_b (pb_inS (ys := ["return", "there", "if"]) (pv_var rfl) (fun Q q => ⟨by decide +kernel, q⟩))) fun h => absurd h (by decide +kernel)) fun _ => pt_and (pt_b (pb_eqS (pv_var rfl))) fun _ => pt_not (pt_b (c1 (f := exprB) (by simp) (pv_ixT (pv_var rfl) at_2)))) (fun h => ?_) (fun h => ?_)
        · have h : exprB y = false := by
            cases q : exprB y with
            | false => rfl
            | true => rw [q] at h; exact absurd h (by decide +kernel)
          rw [h] at k
          exact i_retP pv_c k
        have h : exprB y = true := by
          cases q : exprB y with
          | true => rfl
          | false => rw [q] at h; exact absurd h (by decide +kernel)
        rw [h] at k
        clear h
        show vSeq _ _ _ _ _
        refine i_sqIf (pt_and (b := true) (pt_b (pb_inS (ys := ["each", "if"]) (pv_var rfl) (fun Q q => ⟨by decide +kernel, q⟩))) fun h => absurd h (by decide +kernel)) (fun h => ?_) (fun h => ?_)
        · exact absurd h (by decide +kernel)
        clear h
        show vSeq _ _ _ _ _
        refine i_sqSet (pv_get2 (kvs := [(.str "each", .list [y]), (.str "try", .list [x, y])]) (pv_disp2 (pv_lst1 (pv_op (pv_var rfl) (pv_subI (pv_var rfl) pv_c) fun R q => i_ixT (d := y) (by kernel_rfl) q)) (pv_lst2 (pv_op (pv_var rfl) (pv_subI (pv_var rfl) pv_c) fun R q => i_ixT (d := x) (by kernel_rfl) q) (pv_op (pv_var rfl) (pv_subI (pv_var rfl) pv_c) fun R q => i_ixT (d := y) (by kernel_rfl) q)) (by kernel_rfl)) rfl (pv_var rfl) pv_lst0) ?_
        rw [show (lookD [(PyData.str "each", PyData.list [y]), (.str "try", .list [x, y])] (.inr "let")).getD (.list []) = .list [] by kernel_rfl]
        show vSeq _ _ _ _ _
        refine i_sqIf (b := false) (pt_eq (pt_b (pb_inS (ys := ["there", "if"]) (pv_var rfl) (fun Q q => ⟨by decide +kernel, q⟩))) (by decide +kernel)) (fun h => by cases h) (fun _ => ?_)
        dsimp only [vNext]
        exact i_retP (pb_eq (pb_isNil (pv_lcI (xs := []) (p := fun d => !B d) (f := id) (pp_list (pv_var rfl)) (by simp [sizeLine_eq]) (fun d hm => pt_not (pt_b (cb rfl (by first | (simp at hm; done) | (simp at hm; simp [hm])) (pv_var rfl)))) fun d hm _ => pv_var rfl)) (filt_nil _)) (by simpa using k)
      · have e : stmB B (.tuple [.str "try", x, y]) = (B x && B y) := by kernel_rfl
        rw [e] at k
        clear e
        show vSeq _ _ _ _ _
        refine i_sqIf (pt_and (b := true) (pt_b (pb_inS (ys := ["ask", "let", "each"]) (pv_var rfl) (fun Q q => ⟨by decide +kernel, q⟩))) fun h => absurd h (by decide +kernel)) (fun h => ?_) (fun h => ?_)
        · exact absurd h (by decide +kernel)
        clear h
        show vSeq _ _ _ _ _
        refine i_sqIf (pt_or (pt_and (b := true) (pt_b (pb_inS (ys := ["return", "there", "if"]) (pv_var rfl) (fun Q q => ⟨by decide +kernel, q⟩))) fun h => absurd h (by decide +kernel)) fun _ => pt_and (b := true) (pt_b (pb_eqS (pv_var rfl))) fun h => absurd h (by decide +kernel)) (fun h => ?_) (fun h => ?_)
        · exact absurd h (by decide +kernel)
        clear h
        show vSeq _ _ _ _ _
        refine i_sqIf (pt_and (b := true) (pt_b (pb_inS (ys := ["each", "if"]) (pv_var rfl) (fun Q q => ⟨by decide +kernel, q⟩))) fun h => absurd h (by decide +kernel)) (fun h => ?_) (fun h => ?_)
        · exact absurd h (by decide +kernel)
        clear h
        show vSeq _ _ _ _ _
        refine i_sqSet (pv_get2 (kvs := [(.str "each", .list [y]), (.str "try", .list [x, y])]) (pv_disp2 (pv_lst1 (pv_op (pv_var rfl) (pv_subI (pv_var rfl) pv_c) fun R q => i_ixT (d := y) (by kernel_rfl) q)) (pv_lst2 (pv_op (pv_var rfl) (pv_subI (pv_var rfl) pv_c) fun R q => i_ixT (d := x) (by kernel_rfl) q) (pv_op (pv_var rfl) (pv_subI (pv_var rfl) pv_c) fun R q => i_ixT (d := y) (by kernel_rfl) q)) (by kernel_rfl)) rfl (pv_var rfl) pv_lst0) ?_
        rw [show (lookD [(PyData.str "each", PyData.list [y]), (.str "try", .list [x, y])] (.inr "try")).getD (.list []) = .list [x, y] by kernel_rfl]
        show vSeq _ _ _ _ _
        refine i_sqIf (b := false) (pt_eq (pt_b (pb_inS (ys := ["there", "if"]) (pv_var rfl) (fun Q q => ⟨by decide +kernel, q⟩))) (by decide +kernel)) (fun h => by cases h) (fun _ => ?_)
        dsimp only [vNext]
        exact i_retP (pb_eq (pb_isNil (pv_lcI (xs := [x, y]) (p := fun d => !B d) (f := id) (pp_list (pv_var rfl)) (by simp [sizeLine_eq]) (fun d hm => pt_not (pt_b (cb rfl (by first | (simp at hm; done) | (simp at hm; simp [hm])) (pv_var rfl)))) fun d hm _ => pv_var rfl)) (filt_nil _)) (by simpa using k)
      · have e : stmB B (.tuple [.str "each", x, y, z]) = (nB x && (wB y && B z)) := by kernel_rfl
        rw [e] at k
        clear e
        show vSeq _ _ _ _ _
        refine i_sqIf (pt_and (pt_b (pb_inS (ys := ["ask", "let", "each"]) (pv_var rfl) (fun Q q => ⟨by decide +kernel, q⟩))) fun _ => pt_not (pt_b (c1 (f := nB) (by simp) (pv_ixT (pv_var rfl) at_1)))) (fun h => ?_) (fun h => ?_)
        · have h : nB x = false := by simpa using h
          rw [h] at k
          exact i_retP pv_c k
        have h : nB x = true := by simpa using h
        rw [h, Bool.true_and] at k
        clear h
        show vSeq _ _ _ _ _
        refine i_sqIf (pt_or (pt_and (b := true) (pt_b (pb_inS (ys := ["return", "there", "if"]) (pv_var rfl) (fun Q q => ⟨by decide +kernel, q⟩))) fun h => absurd h (by decide +kernel)) fun _ => pt_and (b := true) (pt_b (pb_eqS (pv_var rfl))) fun h => absurd h (by decide +kernel)) (fun h => ?_) (fun h => ?_)
        · exact absurd h (by decide +kernel)
        clear h
        show vSeq _ _ _ _ _
        refine i_sqIf (pt_and (pt_b (pb_inS (ys := ["each", "if"]) (pv_var rfl) (fun Q q => ⟨by decide +kernel, q⟩))) fun _ => pt_not (pt_b (c1 (f := wB) (by simp) (pv_ixT (pv_var rfl) at_2)))) (fun h => ?_) (fun h => ?_)
        · have h : wB y = false := by simpa using h
          rw [h] at k
          exact i_retP pv_c k
        have h : wB y = true := by simpa using h
        rw [h] at k
        clear h
        show vSeq _ _ _ _ _
        refine i_sqSet (pv_get2 (kvs := [(.str "each", .list [z]), (.str "try", .list [y, z])]) (pv_disp2 (pv_lst1 (pv_op (pv_var rfl) (pv_subI (pv_var rfl) pv_c) fun R q => i_ixT (d := z) (by kernel_rfl) q)) (pv_lst2 (pv_op (pv_var rfl) (pv_subI (pv_var rfl) pv_c) fun R q => i_ixT (d := y) (by kernel_rfl) q) (pv_op (pv_var rfl) (pv_subI (pv_var rfl) pv_c) fun R q => i_ixT (d := z) (by kernel_rfl) q)) (by kernel_rfl)) rfl (pv_var rfl) pv_lst0) ?_
        rw [show (lookD [(PyData.str "each", PyData.list [z]), (.str "try", .list [y, z])] (.inr "each")).getD (.list []) = .list [z] by kernel_rfl]
        show vSeq _ _ _ _ _
        refine i_sqIf (b := false) (pt_eq (pt_b (pb_inS (ys := ["there", "if"]) (pv_var rfl) (fun Q q => ⟨by decide +kernel, q⟩))) (by decide +kernel)) (fun h => by cases h) (fun _ => ?_)
        dsimp only [vNext]
        exact i_retP (pb_eq (pb_isNil (pv_lcI (xs := [z]) (p := fun d => !B d) (f := id) (pp_list (pv_var rfl)) (by simp [sizeLine_eq]) (fun d hm => pt_not (pt_b (cb rfl (by first | (simp at hm; done) | (simp at hm; simp [hm])) (pv_var rfl)))) fun d hm _ => pv_var rfl)) (filt_nil _)) (by simpa using k)
      · have e : stmB B (.tuple [.str "there", x, y, z]) = (exprB x && (B y && othB B z)) := by kernel_rfl
        rw [e] at k
        clear e
        show vSeq _ _ _ _ _
        refine i_sqIf (pt_and (b := true) (pt_b (pb_inS (ys := ["ask", "let", "each"]) (pv_var rfl) (fun Q q => ⟨by decide +kernel, q⟩))) fun h => absurd h (by decide +kernel)) (fun h => ?_) (fun h => ?_)
        · exact absurd h (by decide +kernel)
        clear h
        show vSeq _ _ _ _ _
        refine i_sqIf (pt_or (pt_and (pt_b (pb_inS (ys := ["return", "there", "if"]) (pv_var rfl) (fun Q q => ⟨by decide +kernel, q⟩))) fun _ => pt_not (pt_b (c1 (f := exprB) (by simp) (pv_ixT (pv_var rfl) at_1)))) fun _ => pt_and (b := true) (pt_b (pb_eqS (pv_var rfl))) fun h => absurd h (by decide +kernel)) (fun h => ?_) (fun h => ?_)
        · have h : exprB x = false := by
            cases q : exprB x with
            | false => rfl
            | true => rw [q] at h; exact absurd h (by decide +kernel)
          rw [h] at k
          exact i_retP pv_c k
        have h : exprB x = true := by
          cases q : exprB x with
          | true => rfl
          | false => rw [q] at h; exact absurd h (by decide +kernel)
        rw [h] at k
        clear h
        show vSeq _ _ _ _ _
        refine i_sqIf (pt_and (b := true) (pt_b (pb_inS (ys := ["each", "if"]) (pv_var rfl) (fun Q q => ⟨by decide +kernel, q⟩))) fun h => absurd h (by decide +kernel)) (fun h => ?_) (fun h => ?_)
        · exact absurd h (by decide +kernel)
        clear h
        show vSeq _ _ _ _ _
        refine i_sqSet (pv_get2 (kvs := [(.str "each", .list [z]), (.str "try", .list [y, z])]) (pv_disp2 (pv_lst1 (pv_op (pv_var rfl) (pv_subI (pv_var rfl) pv_c) fun R q => i_ixT (d := z) (by kernel_rfl) q)) (pv_lst2 (pv_op (pv_var rfl) (pv_subI (pv_var rfl) pv_c) fun R q => i_ixT (d := y) (by kernel_rfl) q) (pv_op (pv_var rfl) (pv_subI (pv_var rfl) pv_c) fun R q => i_ixT (d := z) (by kernel_rfl) q)) (by kernel_rfl)) rfl (pv_var rfl) pv_lst0) ?_
        rw [show (lookD [(PyData.str "each", PyData.list [z]), (.str "try", .list [y, z])] (.inr "there")).getD (.list []) = .list [] by kernel_rfl]
        show vSeq _ _ _ _ _
        refine i_sqIf (pt_b (pb_inS (ys := ["there", "if"]) (pv_var rfl) (fun Q q => ⟨by decide +kernel, q⟩))) (fun _ => ?_) (fun h => absurd h (by decide +kernel))
        refine i_sqSet (pv_lst2 (pv_op (pv_var rfl) (pv_subI (pv_var rfl) pv_c) fun R q => i_ixT (d := y) (by kernel_rfl) q) (pv_op (pv_var rfl) (pv_subI (pv_var rfl) pv_c) fun R q => i_ixT (d := z) (by kernel_rfl) q)) ?_
        have hl : Pl z := hd.mem (by simp)
        refine i_ifP (pt_and (b := lenE z) (pt_b (pb_isT (pv_op (pv_var rfl) (pv_subI (pv_var rfl) pv_c) fun R q => i_ixT (d := z) (by kernel_rfl) q) hl)) fun h => ?_) (fun h => ?_) (fun h => ?_)
        · obtain ⟨es, rfl, _, _⟩ := hl.tup_of h
          exact pt_eq (pt_b (pb_eqI (pv_lenT (pv_op (pv_var rfl) (pv_subI (pv_var rfl) pv_c) fun R q => i_ixT (d := .tuple es) (by kernel_rfl) q)) pv_c)) lenE_T.symm
        · have e : z = .tuple [] := by
            cases z with
            | tuple es => cases es with
              | nil => rfl
              | cons a es => cases h
            | _ => cases h
          subst e
          refine i_setP (pv_lst1 (pv_op (pv_var rfl) (pv_subI (pv_var rfl) pv_c) fun R q => i_ixT (d := y) (by kernel_rfl) q)) ?_
          have k : Q (.bool (B y)) r := by simpa [othB] using k
          exact i_retP (pb_eq (pb_isNil (pv_lcI (xs := [y]) (p := fun d => !B d) (f := id) (pp_list (pv_var rfl)) (by simp [sizeLine_eq]) (fun d hm => pt_not (pt_b (cb rfl (by first | (simp at hm; done) | (simp at hm; simp [hm])) (pv_var rfl)))) fun d hm _ => pv_var rfl)) (filt_nil _)) (by simpa using k)
        · have e : othB B z = B z := by
            cases z with
            | tuple es => cases es with
              | nil => cases h
              | cons a es => rfl
            | _ => rfl
          rw [e] at k
          dsimp only [vNext]
          exact i_retP (pb_eq (pb_isNil (pv_lcI (xs := [y, z]) (p := fun d => !B d) (f := id) (pp_list (pv_var rfl)) (by simp [sizeLine_eq]) (fun d hm => pt_not (pt_b (cb rfl (by first | (simp at hm; done) | (simp at hm; simp [hm])) (pv_var rfl)))) fun d hm _ => pv_var rfl)) (filt_nil _)) (by simpa using k)
      · have e : stmB B (.tuple [.str "if", x, y, z, u]) = (if (!exprB x || !wB y) = true then false else B z && othB B u) := by kernel_rfl
        rw [e] at k
        clear e
        show vSeq _ _ _ _ _
        refine i_sqIf (pt_and (b := true) (pt_b (pb_inS (ys := ["ask", "let", "each"]) (pv_var rfl) (fun Q q => ⟨by decide +kernel, q⟩))) fun h => absurd h (by decide +kernel)) (fun h => ?_) (fun h => ?_)
        · exact absurd h (by decide +kernel)
        clear h
        show vSeq _ _ _ _ _
        refine i_sqIf (pt_or (pt_and (pt_b (pb_inS (ys := ["return", "there", "if"]) (pv_var rfl) (fun Q q => ⟨by decide +kernel, q⟩))) fun _ => pt_not (pt_b (c1 (f := exprB) (by simp) (pv_ixT (pv_var rfl) at_1)))) fun _ => pt_and (b := true) (pt_b (pb_eqS (pv_var rfl))) fun h => absurd h (by decide +kernel)) (fun h => ?_) (fun h => ?_)
        · have h : exprB x = false := by
            cases q : exprB x with
            | false => rfl
            | true => rw [q] at h; exact absurd h (by decide +kernel)
          rw [h] at k
          exact i_retP pv_c k
        have h : exprB x = true := by
          cases q : exprB x with
          | true => rfl
          | false => rw [q] at h; exact absurd h (by decide +kernel)
        rw [h] at k
        clear h
        show vSeq _ _ _ _ _
        refine i_sqIf (pt_and (pt_b (pb_inS (ys := ["each", "if"]) (pv_var rfl) (fun Q q => ⟨by decide +kernel, q⟩))) fun _ => pt_not (pt_b (c1 (f := wB) (by simp) (pv_ixT (pv_var rfl) at_2)))) (fun h => ?_) (fun h => ?_)
        · have h : wB y = false := by simpa using h
          rw [h] at k
          exact i_retP pv_c k
        have h : wB y = true := by simpa using h
        rw [h] at k
        clear h
        show vSeq _ _ _ _ _
        refine i_sqSet (pv_get2 (kvs := [(.str "each", .list [u]), (.str "try", .list [z, u])]) (pv_disp2 (pv_lst1 (pv_op (pv_var rfl) (pv_subI (pv_var rfl) pv_c) fun R q => i_ixT (d := u) (by kernel_rfl) q)) (pv_lst2 (pv_op (pv_var rfl) (pv_subI (pv_var rfl) pv_c) fun R q => i_ixT (d := z) (by kernel_rfl) q) (pv_op (pv_var rfl) (pv_subI (pv_var rfl) pv_c) fun R q => i_ixT (d := u) (by kernel_rfl) q)) (by kernel_rfl)) rfl (pv_var rfl) pv_lst0) ?_
        rw [show (lookD [(PyData.str "each", PyData.list [u]), (.str "try", .list [z, u])] (.inr "if")).getD (.list []) = .list [] by kernel_rfl]
        show vSeq _ _ _ _ _
        refine i_sqIf (pt_b (pb_inS (ys := ["there", "if"]) (pv_var rfl) (fun Q q => ⟨by decide +kernel, q⟩))) (fun _ => ?_) (fun h => absurd h (by decide +kernel))
        refine i_sqSet (pv_lst2 (pv_op (pv_var rfl) (pv_subI (pv_var rfl) pv_c) fun R q => i_ixT (d := z) (by kernel_rfl) q) (pv_op (pv_var rfl) (pv_subI (pv_var rfl) pv_c) fun R q => i_ixT (d := u) (by kernel_rfl) q)) ?_
        have hl : Pl u := hd.mem (by simp)
        refine i_ifP (pt_and (b := lenE u) (pt_b (pb_isT (pv_op (pv_var rfl) (pv_subI (pv_var rfl) pv_c) fun R q => i_ixT (d := u) (by kernel_rfl) q) hl)) fun h => ?_) (fun h => ?_) (fun h => ?_)
        · obtain ⟨es, rfl, _, _⟩ := hl.tup_of h
          exact pt_eq (pt_b (pb_eqI (pv_lenT (pv_op (pv_var rfl) (pv_subI (pv_var rfl) pv_c) fun R q => i_ixT (d := .tuple es) (by kernel_rfl) q)) pv_c)) lenE_T.symm
        · have e : u = .tuple [] := by
            cases u with
            | tuple es => cases es with
              | nil => rfl
              | cons a es => cases h
            | _ => cases h
          subst e
          refine i_setP (pv_lst1 (pv_op (pv_var rfl) (pv_subI (pv_var rfl) pv_c) fun R q => i_ixT (d := z) (by kernel_rfl) q)) ?_
          have k : Q (.bool (B z)) r := by simpa [othB] using k
          exact i_retP (pb_eq (pb_isNil (pv_lcI (xs := [z]) (p := fun d => !B d) (f := id) (pp_list (pv_var rfl)) (by simp [sizeLine_eq]) (fun d hm => pt_not (pt_b (cb rfl (by first | (simp at hm; done) | (simp at hm; simp [hm])) (pv_var rfl)))) fun d hm _ => pv_var rfl)) (filt_nil _)) (by simpa using k)
        · have e : othB B u = B u := by
            cases u with
            | tuple es => cases es with
              | nil => cases h
              | cons a es => rfl
            | _ => rfl
          rw [e] at k
          dsimp only [vNext]
          exact i_retP (pb_eq (pb_isNil (pv_lcI (xs := [z, u]) (p := fun d => !B d) (f := id) (pp_list (pv_var rfl)) (by simp [sizeLine_eq]) (fun d hm => pt_not (pt_b (cb rfl (by first | (simp at hm; done) | (simp at hm; simp [hm])) (pv_var rfl)))) fun d hm _ => pv_var rfl)) (filt_nil _)) (by simpa using k)
theorem vok_lblkB0 (T : Txt K mg) {m : Nat} (hm : 5 ≤ m) : FnOk P w K mg base CX0 (m + 1) T.f_law_is_block T.fd_law_is_block ["_law_worth", "_law_level"] (spV K mF (vfBl (blkB 0) 5)) := by
  have GS : FnOk P w K mg base CX0 m T.f_law_is_statement T.fd_law_is_statement ["_law_row_here", "_law_level"] (spV K mF fun _ _ _ => False) := fnOk_no5 fun vs H Q E h => by
    obtain ⟨_, _, _, _, _, _, _, h, _⟩ := h
    exact h
  refine okV (M := mF) (O' := []) T.F_law_is_block sc_law_is_block ?_ (fun cdv A outer s H E hr => (vss_cons (vs_if (vw_or (vt_cmp (cp_gt) (ve_var (pv 1)).vb ve_int.vb) (vw_or (vt_not (vt_val (ve_isi (Ts := "tuple") (by decide +kernel) (by decide +kernel) (by rfl) T.z_isinstance (by rfl) T.z_tuple (ve_var (pv 0)).vb).ve)) (vw_or1 (vt_cmp (cp_eq hr.units) (ve_len (by rfl) T.z_len (vab_cons (ve_var (pv 0)).vb vab_nil)).vb ve_int.vb)))).vt
        (vss_one (vs_ret ve_bl.ve))
        vss_nil)
      (vss_one (vs_ret (ve_cmp (cp_eq hr.units) (vl_lc (own := [("_law_row_here", 2)]) (t := (.nm 2)) rfl sc_law_is_block.nd (vi_seq (ve_var (pv 0))) (blkOk_by (N := n_law_is_block) (sc := defScope s_law_is_block) (by decide +kernel)) (fun _ _ _ _ _ => (pg_name (i := 2) sc_law_is_block.nd rfl (Or.inl rfl))) (fun _ _ _ _ _ => (vpts_one (vt_not (vt_val (ve_call GS (hr.mono (by omega)) (by rfl) T.g_law_is_statement T.F_law_is_statement.kp T.b_law_is_statement (va_cons (ve_var (pv 2)) (va_cons (ve_var (pv 1)) va_nil))))))) (fun _ _ _ _ _ => (ve_var (pv 2)))).vb (ve_lst va_nil).vb).ve)))) ?_
  · rintro ds r Q ⟨d, rfl, _⟩
    rfl
  · rintro ds r Q ⟨d, rfl, hd, k⟩
    rw [show startV n_law_is_block [_, .int ((5 : Nat) : Int)] = [some (_), some (.int ((5 : Nat) : Int)), none] from rfl]
    exact i_sqIf (pt_or (b := true) (pt_eq (b := true) (pt_b (pb_i0 (g := fun i j => decide (j < i)) (pv_var rfl) pv_c)) (by decide)) fun h => by cases h) (fun h => i_retP pv_c k) (fun h => by cases h)
theorem vok_lblkB4 (T : Txt K mg) : FnOk P w K mg base CX0 18 T.f_law_is_block T.fd_law_is_block ["_law_worth", "_law_level"] (spV K mF (vfBl (blkB 4) 1)) := by
  have B0 := vok_lblkB0 (P := P) (w := w) (base := base) T (m := 5) (by decide)
  have B1 := vok_lblkB (n := 0) (lv := 4) T (by decide) rfl (vok_lstmB T (by decide) B0)
  have B2 := vok_lblkB (n := 1) (lv := 3) T (by decide) rfl (vok_lstmB T (by decide) B1)
  have B3 := vok_lblkB (n := 2) (lv := 2) T (by decide) rfl (vok_lstmB T (by decide) B2)
  exact (vok_lblkB (n := 3) (lv := 1) T (by decide) rfl (vok_lstmB T (by decide) B3)).mono (by decide)
theorem vok_litemB (T : Txt K mg) : FnOk P w K mg base CX0 19 T.f_law_is_item T.fd_law_is_item ["_law_item_here"] (spV K mF (vfB itemB)) := by
  have GB := vok_lblkB4 (P := P) (w := w) (base := base) T
  refine okV (M := mF) (O' := []) T.F_law_is_item sc_law_is_item ?_ (fun cdv A outer s H E hr => (vss_cons (vs_if (vt_not (vt_val (ve_call (vok_lrowB T) (hr.mono (by decide)) (by rfl) T.g_law_is_row T.F_law_is_row.kp T.b_law_is_row (va_cons (ve_var (pv 0)) (va_cons (ve_lst (va_cons ve_int.ve (va_cons ve_int.ve (va_cons ve_int.ve va_nil)))).ve va_nil)))))
        (vss_one (vs_ret ve_bl.ve))
        vss_nil)
      (vss_cons (vs_par2 (i := 1) (j := 2) (by rfl) sc_law_is_item.nd rfl rfl (by decide) rfl rfl (va_cons (ve_ix (ve_var (pv 0)).vb ve_int.vb) (va_cons (ve_len (by rfl) T.z_len (vab_cons (ve_var (pv 0)).vb vab_nil)).ve va_nil)) (by rfl))
      (vss_cons (vs_if (vt_cmp (cp_ne hr.units) (ve_dget1 (hu_of hr) (ve_disp (vps_cons ve_str.ve ve_int.ve (vps_cons ve_str.ve ve_int.ve (vps_cons ve_str.ve ve_int.ve (vps_cons ve_str.ve ve_int.ve (vps_cons ve_str.ve ve_int.ve (vps_cons ve_str.ve ve_int.ve (vps_cons ve_str.ve ve_int.ve vps_nil))))))) (by rfl) (by rfl) (by simp) (by decide)).vb (ve_var (pv 1)).vb ⟨by rfl, by rfl, by rfl, by rfl⟩).vb (ve_var (pv 2)).vb)
        (vss_one (vs_ret ve_bl.ve))
        vss_nil)
      (vss_cons (vs_if (vt_cmp (cp_eq hr.units) (ve_var (pv 1)).vb ve_str.vb)
        (vss_one (vs_ret (ve_call (vok_lnamesB T) (hr.mono (by decide)) (by rfl) T.g_law_are_names T.F_law_are_names.kp T.b_law_are_names (va_cons (ve_ix (ve_var (pv 0)).vb ve_int.vb) (va_cons ve_int.ve (va_cons ve_int.ve va_nil))))))
        vss_nil)
      (vss_cons (vs_if (vt_not (vt_val (ve_call (vok_lnameB T) (hr.mono (by decide)) (by rfl) T.g_law_is_name T.F_law_is_name.kp T.b_law_is_name (va_cons (ve_ix (ve_var (pv 0)).vb ve_int.vb) va_nil))))
        (vss_one (vs_ret ve_bl.ve))
        vss_nil)
      (vss_cons (vs_if (vt_cmp (cp_eq hr.units) (ve_var (pv 1)).vb ve_str.vb)
        (vss_one (vs_ret (ve_call (vok_lwordB T) (hr.mono (by decide)) (by rfl) T.g_law_is_word T.F_law_is_word.kp T.b_law_is_word (va_cons (ve_ix (ve_var (pv 0)).vb ve_int.vb) va_nil))))
        vss_nil)
      (vss_cons (vs_if (vt_cmp (cp_eq hr.units) (ve_var (pv 1)).vb ve_str.vb)
        (vss_one (vs_ret (ve_and (ve_call (vok_lnameB T) (hr.mono (by decide)) (by rfl) T.g_law_is_name T.F_law_is_name.kp T.b_law_is_name (va_cons (ve_ix (ve_var (pv 0)).vb ve_int.vb) va_nil)) (ve_one (ve_call (vok_lnameB T) (hr.mono (by decide)) (by rfl) T.g_law_is_name T.F_law_is_name.kp T.b_law_is_name (va_cons (ve_ix (ve_var (pv 0)).vb ve_int.vb) va_nil))))))
        vss_nil)
      (vss_cons (vs_if (vt_cmp (cp_eq hr.units) (ve_var (pv 1)).vb ve_str.vb)
        (vss_one (vs_ret (ve_and (ve_call (vok_lnamesB T) (hr.mono (by decide)) (by rfl) T.g_law_are_names T.F_law_are_names.kp T.b_law_are_names (va_cons (ve_ix (ve_var (pv 0)).vb ve_int.vb) (va_cons ve_int.ve (va_cons ve_int.ve va_nil)))) (ve_one (ve_call GB (hr.mono (by decide)) (by rfl) T.g_law_is_block T.F_law_is_block.kp T.b_law_is_block (va_cons (ve_ix (ve_var (pv 0)).vb ve_int.vb) (va_cons ve_int.ve va_nil)))))))
        vss_nil)
      (vss_one (vs_ret (ve_or (ve_cmp (cp_in (hu65 hr)) (ve_var (pv 1)).vb (ve_tup (va_cons ve_str.ve (va_cons ve_str.ve va_nil))).vb).ve (ve_one (ve_call (vok_lpairsB T) (hr.mono (by decide)) (by rfl) T.g_law_are_pairs T.F_law_are_pairs.kp T.b_law_are_pairs (va_cons (ve_ix (ve_var (pv 0)).vb ve_int.vb) va_nil))))))))))))))) ?_
  · rintro ds r Q ⟨d, rfl, _⟩
    rfl
  · rintro ds r Q ⟨d, rfl, hd, k⟩
    rw [show startV n_law_is_item [_] = [some (_), none, none] from rfl]
    refine i_sqIf (pt_not (pt_b (pv_call2 (z := .bool (rowB [2, 3, 4] d)) (pv_var rfl) (y := .list (([2, 3, 4] : List Int).map .int)) (fun Q q => ⟨by decide +kernel, q⟩) fun Q q => ⟨d, [2, 3, 4], rfl, hd, by decide, q⟩))) (fun h => ?_) (fun h => ?_)
    · rw [it_row (by simpa using h)] at k
      exact i_retP pv_c k
    · obtain ⟨z, t, rfl⟩ := rowI_of (d := d) (by simpa using h)
      clear h
      show vSeq _ _ _ _ _
      refine i_sqPar2 (pv_ixT (pv_var rfl) at_0) (pv_lenT (pv_var rfl)) ?_
      refine i_sqIf (pt_b (pv_op (z := .bool (!szOkI z (.tuple (.str z :: t)))) (pv_get1 (kvs := szE) (pv_dispC (ps := szE) (by kernel_rfl)) (by kernel_rfl) (pv_var rfl)) (pv_var rfl) fun R q => ?_)) (fun h => ?_) (fun h => ?_)
      · exact szI_ne q
      · rw [it_sz (by simpa using h)] at k
        exact i_retP pv_c k
      have h := szI_forms (by simpa using h)
      have c1 : ∀ {ρ : En} {va : VT} {x : D} {f : D → Bool}, x ∈ (PyData.str z :: t) → PV va ρ r x → PB (vCall (vfB f) (vCons va vNil)) ρ r (f x) := fun hm ha => pv_call1 ha fun Q q => ⟨_, rfl, hd.mem hm, q⟩
      have cn : ∀ {ρ : En} {va vb vc : VT} {x : D} {lo hi : Nat}, x ∈ (PyData.str z :: t) → PV va ρ r x → PV vb ρ r (.int (lo : Nat)) → PV vc ρ r (.int (hi : Nat)) → PB (vCall vfNmL (vCons va (vCons vb (vCons vc vNil)))) ρ r (namesB lo hi x) := fun hm ha hb hc => pv_call3 ha hb hc fun Q q => ⟨_, _, _, rfl, hd.mem hm, q⟩
      show vSeq _ _ _ _ _
      rcases h with ⟨rfl, x, rfl⟩ | ⟨rfl, x, rfl⟩ | ⟨rfl, x, rfl⟩ | ⟨rfl, x, y, rfl⟩ | ⟨rfl, x, y, rfl⟩ | ⟨rfl, x, y, u, rfl⟩ | ⟨rfl, x, y, u, rfl⟩
      · have e : restB "star" [] = (true) := by kernel_rfl
        rw [it_eq, if_neg (by decide +kernel), e] at k
        clear e
        refine i_sqIf (pt_b (pb_eqS (pv_var rfl))) (fun h => absurd h (by decide +kernel)) (fun _ => ?_)
        show vSeq _ _ _ _ _
        refine i_sqIf (pt_not (pt_b (c1 (f := nB) (by simp) (pv_ixT (pv_var rfl) at_1)))) (fun h => ?_) (fun h => ?_)
        · rw [if_pos h] at k
          exact i_retP pv_c k
        rw [if_neg (by rw [h]; decide)] at k
        show vSeq _ _ _ _ _
        refine i_sqIf (pt_b (pb_eqS (pv_var rfl))) (fun h => absurd h (by decide +kernel)) (fun _ => ?_)
        show vSeq _ _ _ _ _
        refine i_sqIf (pt_b (pb_eqS (pv_var rfl))) (fun h => absurd h (by decide +kernel)) (fun _ => ?_)
        show vSeq _ _ _ _ _
        refine i_sqIf (pt_b (pb_eqS (pv_var rfl))) (fun h => absurd h (by decide +kernel)) (fun _ => ?_)
        dsimp only [vNext]
        exact i_retP (pb_eq (pb_or (b := true) (pb_inS (ys := ["star", "entry"]) (pv_var rfl) (fun Q q => ⟨by decide +kernel, q⟩)) fun h => absurd h (by decide +kernel)) (by simp)) k
      · have e : restB "entry" [] = (true) := by kernel_rfl
        rw [it_eq, if_neg (by decide +kernel), e] at k
        clear e
        refine i_sqIf (pt_b (pb_eqS (pv_var rfl))) (fun h => absurd h (by decide +kernel)) (fun _ => ?_)
        show vSeq _ _ _ _ _
        refine i_sqIf (pt_not (pt_b (c1 (f := nB) (by simp) (pv_ixT (pv_var rfl) at_1)))) (fun h => ?_) (fun h => ?_)
        · rw [if_pos h] at k
          exact i_retP pv_c k
        rw [if_neg (by rw [h]; decide)] at k
        show vSeq _ _ _ _ _
        refine i_sqIf (pt_b (pb_eqS (pv_var rfl))) (fun h => absurd h (by decide +kernel)) (fun _ => ?_)
        show vSeq _ _ _ _ _
        refine i_sqIf (pt_b (pb_eqS (pv_var rfl))) (fun h => absurd h (by decide +kernel)) (fun _ => ?_)
        show vSeq _ _ _ _ _
        refine i_sqIf (pt_b (pb_eqS (pv_var rfl))) (fun h => absurd h (by decide +kernel)) (fun _ => ?_)
        dsimp only [vNext]
        exact i_retP (pb_eq (pb_or (b := true) (pb_inS (ys := ["star", "entry"]) (pv_var rfl) (fun Q q => ⟨by decide +kernel, q⟩)) fun h => absurd h (by decide +kernel)) (by simp)) k
      · have e : itemB (.tuple [.str "offer", x]) = namesB 1 12 x := by rw [it_eq, if_pos rfl]; rfl
        rw [e] at k
        refine i_sqIf (pt_b (pb_eqS (pv_var rfl))) (fun _ => ?_) (fun h => absurd h (by decide +kernel))
        exact i_retP (cn (by simp) (pv_ixT (pv_var rfl) at_1) pv_c pv_c) k
      · have e : restB "set" [y] = (wB y) := by show (decide (("set" : Str) = "set") && wB y || decide (("set" : Str) = "table") && pairsB y) = _; rw [decide_eq_true rfl, decide_eq_false (show ¬ ("set" : Str) = "table" by decide +kernel)]; simp
        rw [it_eq, if_neg (by decide +kernel), e] at k
        clear e
        refine i_sqIf (pt_b (pb_eqS (pv_var rfl))) (fun h => absurd h (by decide +kernel)) (fun _ => ?_)
        show vSeq _ _ _ _ _
        refine i_sqIf (pt_not (pt_b (c1 (f := nB) (by simp) (pv_ixT (pv_var rfl) at_1)))) (fun h => ?_) (fun h => ?_)
        · rw [if_pos h] at k
          exact i_retP pv_c k
        rw [if_neg (by rw [h]; decide)] at k
        show vSeq _ _ _ _ _
        refine i_sqIf (pt_b (pb_eqS (pv_var rfl))) (fun _ => ?_) (fun h => absurd h (by decide +kernel))
        exact i_retP (c1 (f := wB) (by simp) (pv_ixT (pv_var rfl) at_2)) k
      · have e : restB "table" [y] = (pairsB y) := by show (decide (("table" : Str) = "set") && wB y || decide (("table" : Str) = "table") && pairsB y) = _; rw [decide_eq_true rfl, decide_eq_false (show ¬ ("table" : Str) = "set" by decide +kernel)]; simp
        rw [it_eq, if_neg (by decide +kernel), e] at k
        clear e
        refine i_sqIf (pt_b (pb_eqS (pv_var rfl))) (fun h => absurd h (by decide +kernel)) (fun _ => ?_)
        show vSeq _ _ _ _ _
        refine i_sqIf (pt_not (pt_b (c1 (f := nB) (by simp) (pv_ixT (pv_var rfl) at_1)))) (fun h => ?_) (fun h => ?_)
        · rw [if_pos h] at k
          exact i_retP pv_c k
        rw [if_neg (by rw [h]; decide)] at k
        show vSeq _ _ _ _ _
        refine i_sqIf (pt_b (pb_eqS (pv_var rfl))) (fun h => absurd h (by decide +kernel)) (fun _ => ?_)
        show vSeq _ _ _ _ _
        refine i_sqIf (pt_b (pb_eqS (pv_var rfl))) (fun h => absurd h (by decide +kernel)) (fun _ => ?_)
        show vSeq _ _ _ _ _
        refine i_sqIf (pt_b (pb_eqS (pv_var rfl))) (fun h => absurd h (by decide +kernel)) (fun _ => ?_)
        dsimp only [vNext]
        exact i_retP (pb_eq (pb_or (pb_inS (ys := ["star", "entry"]) (pv_var rfl) (fun Q q => ⟨by decide +kernel, q⟩)) fun _ => (c1 (f := pairsB) (by simp) (pv_ixT (pv_var rfl) at_2))) (by rw [show decide (("table" : Str) ∈ (["star", "entry"] : List Str)) = false by decide +kernel]; rfl)) k
      · have e : restB "use" [y, u] = (nB y && nB u) := by kernel_rfl
        rw [it_eq, if_neg (by decide +kernel), e] at k
        clear e
        refine i_sqIf (pt_b (pb_eqS (pv_var rfl))) (fun h => absurd h (by decide +kernel)) (fun _ => ?_)
        show vSeq _ _ _ _ _
        refine i_sqIf (pt_not (pt_b (c1 (f := nB) (by simp) (pv_ixT (pv_var rfl) at_1)))) (fun h => ?_) (fun h => ?_)
        · rw [if_pos h] at k
          exact i_retP pv_c k
        rw [if_neg (by rw [h]; decide)] at k
        show vSeq _ _ _ _ _
        refine i_sqIf (pt_b (pb_eqS (pv_var rfl))) (fun h => absurd h (by decide +kernel)) (fun _ => ?_)
        show vSeq _ _ _ _ _
        refine i_sqIf (pt_b (pb_eqS (pv_var rfl))) (fun _ => ?_) (fun h => absurd h (by decide +kernel))
        exact i_retP (pb_and (c1 (f := nB) (by simp) (pv_ixT (pv_var rfl) at_2)) fun _ => (c1 (f := nB) (by simp) (pv_ixT (pv_var rfl) at_3))) k
      · have e : restB "def" [y, u] = (namesB 0 3 y && blkB 4 u) := by kernel_rfl
        rw [it_eq, if_neg (by decide +kernel), e] at k
        clear e
        refine i_sqIf (pt_b (pb_eqS (pv_var rfl))) (fun h => absurd h (by decide +kernel)) (fun _ => ?_)
        show vSeq _ _ _ _ _
        refine i_sqIf (pt_not (pt_b (c1 (f := nB) (by simp) (pv_ixT (pv_var rfl) at_1)))) (fun h => ?_) (fun h => ?_)
        · rw [if_pos h] at k
          exact i_retP pv_c k
        rw [if_neg (by rw [h]; decide)] at k
        show vSeq _ _ _ _ _
        refine i_sqIf (pt_b (pb_eqS (pv_var rfl))) (fun h => absurd h (by decide +kernel)) (fun _ => ?_)
        show vSeq _ _ _ _ _
        refine i_sqIf (pt_b (pb_eqS (pv_var rfl))) (fun h => absurd h (by decide +kernel)) (fun _ => ?_)
        show vSeq _ _ _ _ _
        refine i_sqIf (pt_b (pb_eqS (pv_var rfl))) (fun _ => ?_) (fun h => absurd h (by decide +kernel))
        exact i_retP (pb_and (cn (by simp) (pv_ixT (pv_var rfl) at_2) pv_c pv_c) fun _ => pv_call2 (pv_ixT (pv_var rfl) at_3) pv_c fun Q q => ⟨u, rfl, hd.mem (by simp), q⟩) k
theorem vok_ltreeB (T : Txt K mg) : FnOk P w K mg base CX0 20 T.f_law_is_tree T.fd_law_is_tree ["_law_worth"] (spV K mF (vfB treeB)) := by
  refine okV (M := mF) (O' := []) T.F_law_is_tree sc_law_is_tree ?_ (fun cdv A outer s H E hr => (vss_cons (vs_if (vw_or (vt_not (vt_val (ve_isi (Ts := "tuple") (by decide +kernel) (by decide +kernel) (by rfl) T.z_isinstance (by rfl) T.z_tuple (ve_var (pv 0)).vb).ve)) (vw_or1 (vt_cmp (cp_ne hr.units) (vl_lc (own := [("_law_item_here", 2)]) (t := (.nm 2)) rfl sc_law_is_tree.nd (vi_seq (ve_var (pv 0))) (blkOk_by (N := n_law_is_tree) (sc := defScope s_law_is_tree) (by decide +kernel)) (fun _ _ _ _ _ => (pg_name (i := 2) sc_law_is_tree.nd rfl (Or.inl rfl))) (fun _ _ _ _ _ => (vpts_one (vt_not (vt_val (ve_call (vok_litemB T) (hr.mono (by decide)) (by rfl) T.g_law_is_item T.F_law_is_item.kp T.b_law_is_item (va_cons (ve_var (pv 2)) va_nil)))))) (fun _ _ _ _ _ => (ve_var (pv 2)))).vb (ve_lst va_nil).vb))).vt
        (vss_one (vs_ret ve_bl.ve))
        vss_nil)
      (vss_cons (vs_set (i := 1) sc_law_is_tree.nd rfl (Or.inr rfl) (vl_lc (own := [("_law_item_here", 2)]) (t := (.nm 2)) rfl sc_law_is_tree.nd (vi_seq (ve_var (pv 0))) (blkOk_by (N := n_law_is_tree) (sc := defScope s_law_is_tree) (by decide +kernel)) (fun _ _ _ _ _ => (pg_name (i := 2) sc_law_is_tree.nd rfl (Or.inl rfl))) (fun _ _ _ _ _ => (vpts_one (vt_cmp (cp_in (hu65 hr)) (ve_ix (ve_var (pv 2)).vb ve_int.vb).vb (ve_tup (va_cons ve_str.ve (va_cons ve_str.ve (va_cons ve_str.ve (va_cons ve_str.ve va_nil))))).vb))) (fun _ _ _ _ _ => (ve_ix (ve_var (pv 2)).vb ve_int.vb))).ve)
      (vss_one (vs_ret (ve_cmp (cp_eq hr.units) (vl_lc (own := [("_law_k", 3)]) (t := (.nm 3)) rfl sc_law_is_tree.nd (vi_rng1 (by rfl) T.z_range (vab_cons (ve_len (by rfl) T.z_len (vab_cons (ve_var (pv 1)).vb vab_nil)).vb vab_nil)) (blkOk_by (N := n_law_is_tree) (sc := defScope s_law_is_tree) (by decide +kernel)) (fun _ _ _ _ _ => (pg_name (i := 3) sc_law_is_tree.nd rfl (Or.inl rfl))) (fun _ _ _ _ _ => (vpts_one (vt_cmp (cp_in (hu65 hr)) (ve_ix (ve_var (pv 1)).vb (ve_var (pv 3)).vb).vb (ve_slice (ve_var (pv 1)).vb vo_none (vo_some (ve_var (pv 3)).vb)).vb))) (fun _ _ _ _ _ => (ve_var (pv 3)))).vb (ve_lst va_nil).vb).ve))))) ?_
  · rintro ds r Q ⟨d, rfl, _⟩
    rfl
  · rintro ds r Q ⟨d, rfl, hd, k⟩
    rw [show startV n_law_is_tree [_] = [some (_), none, none, none] from rfl]
    refine i_sqIf (pt_or (b := !itemsB d) (pt_not (pt_b (pb_isT (pv_var rfl) hd))) fun h => ?_) (fun h => ?_) (fun h => ?_)
    · obtain ⟨xs, rfl, hl, hx⟩ := hd.tup_of (by simpa using h)
      refine pt_eq (pt_b (pb_isNilN (pv_lcI (p := fun d => !itemB d) (f := id) (pp_tup (pv_var rfl)) (by rw [sizeLine_eq]; omega) (fun d hm => pt_not (pt_b (pv_call1 (pv_var rfl) fun Q q => ⟨d, rfl, hx d hm, q⟩))) fun d hm _ => pv_var rfl))) ?_
      rw [filt_nil]
      rfl
    · have e : treeB d = false := by
        cases d with
        | tuple xs =>
          have h : (!xs.all itemB) = true := h
          show (xs.all itemB && _) = false
          rw [show xs.all itemB = false by simpa using h]
          rfl
        | _ => rfl
      rw [e] at k
      exact i_retP pv_c k
    · obtain ⟨xs, rfl, hl, hx⟩ := hd.tup_of (by cases e : isTup d with
        | true => rfl
        | false => rw [e] at h; cases h)
      have h : xs.all itemB = true := by simpa [isTup, itemsB] using h
      have k : Q (.bool (xs.all itemB && decide ((xs.filter bindsB).map fun d => sOf (at1D d)).Nodup)) r := k
      rw [h, Bool.true_and] at k
      have hi := List.all_eq_true.mp h
      dsimp only [vNext]
      refine i_sqSet (pv_eq (pv_lcI (p := bindsB) (f := fun d => .str (sOf (at1D d))) (pp_tup (pv_var rfl)) (by rw [sizeLine_eq]; omega) (fun d hm => ?_) fun d hm hp => ?_) (x := .list (((xs.filter bindsB).map fun d => sOf (at1D d)).map .str)) (by rw [List.map_map]; rfl)) ?_
      · obtain ⟨z, x, t, rfl, _⟩ := itemB_of (hi d hm)
        exact pt_b (pb_inS (ys := ["use", "set", "table", "def"]) (pv_ixT (pv_var rfl) at_0) (fun Q q => ⟨by decide +kernel, q⟩))
      · obtain ⟨z, x, t, rfl, hn⟩ := itemB_of (hi d hm)
        have hz : z ∈ (["use", "set", "table", "def"] : List Str) := of_decide_eq_true hp
        have hx : nB x = true := hn fun e => by
          rw [e] at hz
          revert hz
          decide +kernel
        cases x with
        | str y => exact pv_ixT (pv_var rfl) at_1
        | _ => cases hx
      · have hyl : ((xs.filter bindsB).map fun d => sOf (at1D d)).length ≤ 1000 := by
          rw [List.length_map]
          exact Nat.le_trans (List.length_filter_le _ _) hl
        generalize (xs.filter bindsB).map (fun d => sOf (at1D d)) = ys at hyl k
        refine i_retP (pv_eq (pb_isNil (pv_lcI (xs := rngD 0 ys.length) (p := fun d => !ownK ys d) (f := id) (fun Q q => ⟨_, rfl, _, rfl, by rw [List.length_map]; omega, by rw [List.length_map]; omega, by rw [List.length_map, Int.toNat_natCast]; exact q⟩) (by unfold rngD; rw [List.length_map, List.length_range, sizeLine_eq]; omega) (fun d hm => ?_) fun d hm _ => pv_var rfl)) ?_) k
        · obtain ⟨i, hil, rfl⟩ := List.mem_map.mp hm
          have hil := List.mem_range.mp hil
          obtain ⟨y, ey⟩ : ∃ y, ys[i]? = some y := ⟨_, List.getElem?_eq_getElem hil⟩
          have e0 : (0 : Int) + (i : Int) = (i : Nat) := by omega
          rw [e0]
          have vx : PV (vOp dIx (vVar 1) (vVar 3)) ((wipeE [some (.tuple xs), some (.list (ys.map .str)), none, none] (List.map (fun x => x.2) [(("_law_k" : Str), 3)])).set 3 (some (.int (i : Nat)))) r (.str y) := pv_op (pv_var rfl) (pv_var rfl) fun R q => i_ixL (atI_nat (by rw [List.getElem?_map, ey]; rfl)) q
          refine pt_eq (pt_b (pb_inL (ys := ys.take i) vx fun Q q => ⟨_, rfl, _, rfl, _, rfl, by show Q (.list (cutL (ys.map .str) Option.none (some ((i : Nat) : Int)))) r; rw [cutTo5, ← List.map_take]; exact q⟩)) ?_
          show _ = !(match ys[i]? with | some y => !decide (y ∈ ys.take i) | none => true)
          rw [ey]
          show _ = !!_
          rw [Bool.not_not]
        · rw [filt_nil, own_all ys]
end
end Sn
namespace Sn
open PySem PySem.Spec PyProof.Rows L2
section
variable {K : PySem.W.Frag} {A : Amb} {W : Addr → Prop} {H H' : Hp} {r : Rs}
theorem ext_mv (R : Res K A W H r) {m : Nat} (D : Dr H' A.d A.g A.c m) (mv : Mv A.d A.g H H') : Ext K A W H W H' where
  fr := fun a o u e => mv a o (fun z => u (.inl z)) (fun z => u (.inr (.inl z))) e
  al := fun a e => by
    by_cases h1 : a = A.d
    · obtain ⟨l, t, _, _, h⟩ := D.di
      rw [h1, h] at e; cases e
    · by_cases h2 : a = A.g
      · obtain ⟨l, h⟩ := D.gr
        rw [h2, h] at e; cases e
      · cases h : H a with
        | none => rfl
        | some o => rw [mv a o h1 h2 h] at e; cases e
  tp := fun a xs e => by
    have nd : ∀ o, H A.d = some o → ∃ k, o = .dK k := fun o h => by obtain ⟨l, t, _, _, h'⟩ := R.dr.di; rw [h'] at h; cases h; exact ⟨_, rfl⟩
    have ng : ∀ o, H A.g = some o → ∃ k, o = .lst k := fun o h => by obtain ⟨l, h'⟩ := R.dr.gr; rw [h'] at h; cases h; exact ⟨_, rfl⟩
    rcases e with (h | ⟨o, h⟩) | h
    · refine .inl (.inl (mv _ _ (fun z => ?_) (fun z => ?_) h))
      · obtain ⟨k, e⟩ := nd _ (by rw [← z]; exact h); cases e
      · obtain ⟨k, e⟩ := ng _ (by rw [← z]; exact h); cases e
    · refine .inl (.inr ⟨o, mv _ _ (fun z => ?_) (fun z => ?_) h⟩)
      · obtain ⟨k, e⟩ := nd _ (by rw [← z]; exact h); cases e
      · obtain ⟨k, e⟩ := ng _ (by rw [← z]; exact h); cases e
    · exact .inr h
  wk := fun _ w => w
  wn := fun _ w => .inl w
theorem res_mv (R : Res K A W H r) {m : Nat} (D : Dr H' A.d A.g A.c m) (mv : Mv A.d A.g H H') : Res K A W H' { r with m := m } where
  dr := D
  sc := R.sc.mov fun sk o e => by
    refine mv _ _ (fun z => ?_) (R.sg sk) e
    obtain ⟨l, t, _, _, h'⟩ := R.dr.di
    rcases R.sc with ⟨_, h | ⟨u, h⟩⟩ | ⟨e', _⟩
    · rw [z, h'] at h; cases h
    · rw [z, h'] at h; cases h
    · rw [sk] at e'; cases e'
  sl := R.sl
  sg := R.sg
  le := R.le
  ce := fun n a d e1 e2 => by
    have ha := List.mem_of_getElem? e1
    have x := ext_mv R D mv
    exact (R.ce n a d e1 e2).ext x R.av fun o e => mv a o (fun z => R.na.1 (by rw [← z]; exact ha)) (fun z => R.na.2.1 (by rw [← z]; exact ha)) e
  nd := R.nd
  na := R.na
  av := R.av
  wa := fun a w e => R.wa a w ((ext_mv R D mv).al a e)
end
def vfTake : VF := fun ds r Q => ∃ n : Int, ds = [dSt, .int n] ∧ 0 < n ∧ n < 1000000000 ∧ r.m ≤ 1000000000 ∧ ∀ k : Int, 0 ≤ k → k < n → Q (.int k) { r with m := r.m + 1 }
/-- pick of a text's signs or of a list -/
def vfPick : VF := fun ds r Q => r.m ≤ 1000000000 ∧ ((∃ z : Str, ds = [dSt, .str z] ∧ 0 < z.length ∧ z.length ≤ 1000 ∧ ∀ x : Nat, x ∈ z.cps.toList → Q (.str ⟨#[x]⟩) { r with m := r.m + 1 }) ∨
  ∃ xs : List D, ds = [dSt, .list xs] ∧ 0 < xs.length ∧ xs.length ≤ 1000 ∧ ∀ x ∈ xs, Q x { r with m := r.m + 1 })
theorem i_pickL {xs : List D} {r : Rs} {Q : D → Rs → Prop} (hm : r.m ≤ 1000000000) (h0 : 0 < xs.length) (h1 : xs.length ≤ 1000) (q : ∀ x ∈ xs, Q x { r with m := r.m + 1 }) : vfPick [dSt, .list xs] r Q := ⟨hm, .inr ⟨xs, rfl, h0, h1, q⟩⟩
theorem i_take {n : Int} {r : Rs} {Q : D → Rs → Prop} (hm : r.m ≤ 1000000000) (h0 : 0 < n) (h1 : n < 1000000000) (q : ∀ k : Nat, (k : Int) < n → Q (.int k) { r with m := r.m + 1 }) : vfTake [dSt, .int n] r Q := ⟨n, rfl, h0, h1, hm, fun k k0 k1 => by
  have := q k.toNat (by omega)
  rwa [Int.toNat_of_nonneg k0] at this⟩
section
variable {P : Program} {w : World} {K : PySem.W.Frag} {mg : Str → Option Value} {base : Heap}
theorem vok_take (T : Txt K mg) : FnOk P w K mg base CX0 2 T.f_law_take T.fd_law_take ["_law_state", "_law_size"] (spV K mF vfTake) := (ok_take T).imp fun vs H Q E h => by
  obtain ⟨A, W, ds, r, Q0, R, hv, ⟨n, rfl, h0, h1, hm, q⟩, k⟩ := h
  cases hv with
  | cons h2 hv =>
    cases hv with
    | cons h3 hv =>
      cases hv
      obtain rfl := h2.stIs
      cases h3
      exact ⟨A.d, A.g, A.c, r.m, n, rfl, R.dr, hm, h0, h1, fun x H' x0 x1 D mv => k _ _ (q x x0 x1) _ H' W (ext_mv R D mv) (res_mv R D mv) (.int _)⟩
theorem vok_pick (T : Txt K mg) : FnOk P w K mg base CX0 3 T.f_law_pick T.fd_law_pick ["_law_state", "_law_some"] (spV K mF vfPick) := (ok_pick T).imp fun vs H Q E h => by
  obtain ⟨A, W, ds, r, Q0, R, hv, ⟨hm, q⟩, k⟩ := h
  refine ⟨A.d, A.g, A.c, r.m, R.dr, hm, ?_⟩
  rcases q with ⟨z, rfl, h0, h1, q⟩ | ⟨xs, rfl, h0, h1, q⟩
  · cases hv with
    | cons h2 hv =>
      cases hv with
      | cons h3 hv =>
        cases hv
        obtain rfl := h2.stIs
        cases h3
        exact .inl ⟨z, rfl, h0, h1, fun x H' hx D mv => k _ _ (q x hx) _ H' W (ext_mv R D mv) (res_mv R D mv) (.str _)⟩
  · cases hv with
    | cons h2 hv =>
      cases hv with
      | cons h3 hv =>
        cases hv
        obtain rfl := h2.stIs
        cases h3 with
        | lst hw h4 h5 =>
          rename_i p vs
          refine .inr ⟨p, vs, rfl, h4, fun z => R.av p hw (.inr (.inl z)), by rw [h5.len]; exact h0, by rw [h5.len]; exact h1, fun x H' hx D mv => ?_⟩
          obtain ⟨i, hi, rfl⟩ := List.getElem_of_mem hx
          obtain ⟨d, e, hd⟩ := h5.getV (List.getElem?_eq_getElem hi)
          exact k d _ (q d (List.mem_of_getElem? e)) _ H' W (ext_mv R D mv) (res_mv R D mv) (hd.ext (ext_mv R D mv) R.av)
end
def lawEnd : VN := ⟨fun _ _ => False, fun d _ => d = .bool true, fun _ _ => False, fun _ _ => False⟩
def lawEn (n : Nat) : En := some dScr :: some dSt :: List.replicate n none
theorem lift_law {K : PySem.W.Frag} {a d g c : Addr} {ns : List Int} {H H1 : Hp} {n : Nat} {O' : List Nat} {vts : VTS} {Q : VK} {nx : L2.St → Hp → Prop} (hS : SqL K H a (ns.map V.int)) (s1 : Same H H1) (ng : H g = none) (D : Dr H1 d g c 0)
    (k : ∀ H', Q (.bl true) H') (law : vts lawEnd (lawEn n) ⟨0, [], ns.length⟩) : liftS K mF [] [] O' vts { nx := nx, rt := Q } (some (.ref a) :: some (.ref d) :: List.replicate n none) H1 := by
  obtain ⟨sk, hsc, hsg⟩ : ∃ sk : Bool, (∀ A : Amb, A.s = a → A.sk = sk → A.ns = ns → ScrOk K A H1) ∧ (sk = true → a ≠ g) := by
    rcases hS with h | h
    · refine ⟨true, fun A e1 e2 e3 => .inl ⟨e2, ?_⟩, fun _ e => ?_⟩
      · rw [e1, e3]
        rcases h with h | ⟨o, h⟩
        · exact .inl (s1 _ _ h)
        · exact .inr ⟨o, s1 _ _ h⟩
      · rw [← e] at ng
        rcases h with h | ⟨o, h⟩ <;> (rw [h] at ng; cases ng)
    · exact ⟨false, fun A e1 e2 e3 => .inr ⟨e2, by rw [e1, e3]; exact h⟩, fun e => by cases e⟩
  let A : Amb := ⟨d, g, c, [], a, sk, ns, []⟩
  have R : Res K A (fun _ => False) H1 ⟨0, [], ns.length⟩ :=
    ⟨D, hsc A rfl rfl rfl, rfl, hsg, rfl, fun n a d e => (by simp [A] at e), List.nodup_nil, ⟨by simp [A], by simp [A], by simp [A], fun _ => by simp [A]⟩, fun _ z => z.elim, fun _ z => z.elim⟩
  refine ⟨A, _, H1, _, lawEn n, _, lawEnd, ⟨by simp [lawEn], fun i d e _ => ?_, fun i d e z => absurd z.1 (by simp), fun i d e z => absurd z (by simp), fun i z => absurd z (by simp), fun i a z => absurd z (by simp [A]), fun i j a d e z => absurd z.1 (by simp), R, .refl⟩, law, fun _ _ z => z.elim, fun dd r' e v H' W' x R' m => ?_, fun _ _ z => z.elim, fun _ _ z => z.elim⟩
  · match i with
    | 0 => cases e; exact ⟨_, rfl, .scr⟩
    | 1 => cases e; exact ⟨_, rfl, .st⟩
    | i + 2 =>
      have e : (List.replicate n none : En)[i]? = some (some d) := e
      have := List.mem_of_getElem? e
      rw [List.mem_replicate] at this
      cases this.2
  · have e : dd = .bool true := e
    subst e
    have m : Dw K A W' H' v (.bool true) := m
    cases m
    exact k H'
end Sn
namespace Sn
open PySem PySem.Spec PyProof.Rows L2 TL
theorem ll_K05f_0 : ("" : Str).length = 0 := by decide +kernel
theorem ll_K05f_1 : ("0a" : Str).length = 2 := by decide +kernel
theorem ll_K05f_2 : ("A" : Str).length = 1 := by decide +kernel
theorem ll_K05f_3 : ("a" : Str).length = 1 := by decide +kernel
theorem ll_K05f_4 : ("as" : Str).length = 2 := by decide +kernel
theorem ll_K05f_5 : ("def" : Str).length = 3 := by decide +kernel
theorem ll_K05f_6 : ("fail" : Str).length = 4 := by decide +kernel
theorem ll_K05f_7 : ("name" : Str).length = 4 := by decide +kernel
theorem ll_K05f_8 : ("ninesigns" : Str).length = 9 := by decide +kernel
theorem ll_K05f_9 : ("star" : Str).length = 4 := by decide +kernel
theorem ll_K05f_10 : ("text" : Str).length = 4 := by decide +kernel
local macro_rules | `(tactic| infer_instance) => `(tactic| simp only [ty_tt, ty_ts, ty_ti, ty_tl, ty_ss, ty_st])
local macro_rules | `(tactic| infer_instance) => `(tactic| assumption)
local macro_rules | `(tactic| infer_instance) => `(tactic| dsimp only [List.set, wipeE])
local macro_rules | `(tactic| infer_instance) => `(tactic| ((with_reducible refine i_pg ?_ ?_); · assumption))
local macro_rules | `(tactic| infer_instance) => `(tactic| ((with_reducible refine i_askW ?_ ?_); · assumption))
local macro_rules | `(tactic| infer_instance) => `(tactic| ((with_reducible refine i_askN ?_ ?_); · assumption))
local macro_rules | `(tactic| infer_instance) => `(tactic| ((with_reducible refine i_okT ?_ ?_); · assumption))
local macro_rules | `(tactic| infer_instance) => `(tactic| ((with_reducible refine i_cStrF ?_ ?_); · decide +kernel))
local macro_rules | `(tactic| infer_instance) => `(tactic| ((with_reducible refine i_cStrT ?_ ?_); · rfl))
local macro_rules | `(tactic| infer_instance) => `(tactic| ((with_reducible refine i_cGF ?_ ?_); · rfl))
local macro_rules | `(tactic| infer_instance) => `(tactic| ((with_reducible refine i_cGT ?_ ?_); · rfl))
local macro_rules | `(tactic| infer_instance) => `(tactic| ((with_reducible refine i_cIntF ?_ ?_); · rfl))
local macro_rules | `(tactic| infer_instance) => `(tactic| ((with_reducible refine i_cIntT ?_ ?_); · rfl))
local macro_rules | `(tactic| infer_instance) => `(tactic| ((with_reducible apply i_appPop); (focus rfl); (focus rfl)))
local macro_rules | `(tactic| infer_instance) => `(tactic| ((with_reducible apply i_insert); · rfl))
local macro_rules | `(tactic| infer_instance) => `(tactic| ((with_reducible refine i_look2F ?_ ?_); · decide +kernel))
local macro_rules | `(tactic| infer_instance) => `(tactic| ((with_reducible refine i_look2T ?_ ?_); · rfl))
local macro_rules | `(tactic| infer_instance) => `(tactic| ((with_reducible refine i_lookF ?_ ?_); · decide +kernel))
local macro_rules | `(tactic| infer_instance) => `(tactic| ((with_reducible refine i_lookT ?_ ?_); · rfl))
local macro_rules | `(tactic| infer_instance) => `(tactic| ((with_reducible refine i_exdict ?_ ?_); · rfl))
local macro_rules | `(tactic| infer_instance) => `(tactic| ((with_reducible refine i_dget2 ?_ ?_); · rfl))
local macro_rules | `(tactic| infer_instance) => `(tactic| ((with_reducible refine i_dget ?_ ?_); · rfl))
local macro_rules | `(tactic| infer_instance) => `(tactic| ((with_reducible refine i_dispQ ?_ ?_); · decide +kernel))
local macro_rules | `(tactic| infer_instance) => `(tactic| ((with_reducible refine i_le ?_ ?_); · (simp only [List.length_append, List.length_map, List.length_replicate, List.length_cons, List.length_nil, sizeLine_eq]; omega)))
local macro_rules | `(tactic| infer_instance) => `(tactic| ((with_reducible refine i_lt ?_ ?_); · (simp only [List.length_append, List.length_map, List.length_replicate, List.length_cons, List.length_nil, sizeLine_eq]; omega)))
local macro_rules | `(tactic| infer_instance) => `(tactic| ((with_reducible refine i_addL ?_ ?_); · (simp only [List.length_append, List.length_map, List.length_replicate, List.length_cons, List.length_nil, sizeLine_eq]; omega)))
local macro_rules | `(tactic| infer_instance) => `(tactic| ((with_reducible refine i_addS ?_ ?_); · (simp only [len_app, sizeLine_eq, ll_emp, ll_K05f_0, ll_K05f_1, ll_K05f_2, ll_K05f_3, ll_K05f_4, ll_K05f_5, ll_K05f_6, ll_K05f_7, ll_K05f_8, ll_K05f_9, ll_K05f_10]; omega)))
local macro_rules | `(tactic| infer_instance) => `(tactic| ((with_reducible refine i_fmtS ?_ ?_); · (simp only [len_app, sizeLine_eq, ll_emp, ll_K05f_0, ll_K05f_1, ll_K05f_2, ll_K05f_3, ll_K05f_4, ll_K05f_5, ll_K05f_6, ll_K05f_7, ll_K05f_8, ll_K05f_9, ll_K05f_10]; omega)))
local macro_rules | `(tactic| infer_instance) => `(tactic| ((with_reducible refine i_le ?_ ?_); · (simp only [len_app, sizeLine_eq, ll_emp, ll_K05f_0, ll_K05f_1, ll_K05f_2, ll_K05f_3, ll_K05f_4, ll_K05f_5, ll_K05f_6, ll_K05f_7, ll_K05f_8, ll_K05f_9, ll_K05f_10]; omega)))
local macro_rules | `(tactic| infer_instance) => `(tactic| ((with_reducible apply i_ty); · rfl))
local macro_rules | `(tactic| infer_instance) => `(tactic| ((with_reducible refine i_ninTf ?_ ?_ ?_); (focus rfl); (focus (decide +kernel))))
local macro_rules | `(tactic| infer_instance) => `(tactic| ((with_reducible refine i_ninTt ?_ ?_ ?_); (focus rfl); (focus (decide +kernel))))
local macro_rules | `(tactic| infer_instance) => `(tactic| ((with_reducible refine i_inLf ?_ ?_ ?_); (focus rfl); (focus (decide +kernel))))
local macro_rules | `(tactic| infer_instance) => `(tactic| ((with_reducible refine i_inLt ?_ ?_ ?_); (focus rfl); (focus (decide +kernel))))
local macro_rules | `(tactic| infer_instance) => `(tactic| ((with_reducible refine i_inTf ?_ ?_ ?_); (focus rfl); (focus (decide +kernel))))
local macro_rules | `(tactic| infer_instance) => `(tactic| ((with_reducible refine i_inTt ?_ ?_ ?_); (focus rfl); (focus (decide +kernel))))
local macro_rules | `(tactic| infer_instance) => `(tactic| ((with_reducible apply i_extend); · rfl))
local macro_rules | `(tactic| infer_instance) => `(tactic| ((with_reducible apply i_append); · rfl))
local macro_rules | `(tactic| infer_instance) => `(tactic| ((with_reducible refine i_notNf ?_ ?_); · rfl))
local macro_rules | `(tactic| infer_instance) => `(tactic| ((with_reducible refine i_notNt ?_ ?_); · rfl))
local macro_rules | `(tactic| infer_instance) => `(tactic| ((with_reducible refine i_isNf ?_ ?_); · rfl))
local macro_rules | `(tactic| infer_instance) => `(tactic| ((with_reducible refine i_isNt ?_ ?_); · rfl))
local macro_rules | `(tactic| infer_instance) => `(tactic| ((with_reducible apply i_ixL); · rfl))
local macro_rules | `(tactic| infer_instance) => `(tactic| ((with_reducible apply i_ixT); · rfl))
local macro_rules | `(tactic| infer_instance) => `(tactic| ((with_reducible refine i_neF ?_ ?_); · decide +kernel))
local macro_rules | `(tactic| infer_instance) => `(tactic| ((with_reducible refine i_neT ?_ ?_); · rfl))
local macro_rules | `(tactic| infer_instance) => `(tactic| ((with_reducible refine i_neF ?_ ?_); · assumption))
local macro_rules | `(tactic| infer_instance) => `(tactic| ((with_reducible refine i_eqF ?_ ?_); · assumption))
local macro_rules | `(tactic| infer_instance) => `(tactic| ((with_reducible refine i_eqF ?_ ?_); · decide +kernel))
local macro_rules | `(tactic| infer_instance) => `(tactic| ((with_reducible refine i_eqT ?_ ?_); · rfl))
local macro_rules | `(tactic| infer_instance) => `(tactic| ((with_reducible refine i_dNF ?_ ?_); (focus first | decide | omega | rfl | (simp only [List.length_cons, List.length_nil]; omega))))
local macro_rules | `(tactic| infer_instance) => `(tactic| ((with_reducible refine i_dNT ?_ ?_); (focus first | decide | omega | rfl | (simp only [List.length_cons, List.length_nil]; omega))))
local macro_rules | `(tactic| infer_instance) => `(tactic| ((with_reducible refine i_dF ?_ ?_); (focus first | decide | omega | rfl | (simp only [List.length_cons, List.length_nil]; omega))))
local macro_rules | `(tactic| infer_instance) => `(tactic| ((with_reducible refine i_dT ?_ ?_); (focus first | decide | omega | rfl | (simp only [List.length_cons, List.length_nil]; omega))))
local macro_rules | `(tactic| infer_instance) => `(tactic| ((with_reducible apply i_var); · rfl))
local macro_rules | `(tactic| infer_instance) => `(tactic| (with_reducible refine St.go ?_))
/-- plain data whose tuples have at most n items, tuples in tuples at most k deep -/
inductive Bd (n : Nat) : Nat → D → Prop
  | none {k : Nat} : Bd n k .none
  | bool {k : Nat} (b : Bool) : Bd n k (.bool b)
  | int {k : Nat} (i : Int) : Bd n k (.int i)
  | str {k : Nat} {z : Str} : z.length ≤ 1000 → Bd n k (.str z)
  | list {k : Nat} (xs : List D) : Bd n k (.list xs)
  | dict {k : Nat} {kvs : List (D × D)} : isTok kvs = false → Bd n k (.dict kvs)
  | tup {k : Nat} {xs : List D} : xs.length ≤ n → (∀ x ∈ xs, Bd n k x) → Bd n (k + 1) (.tuple xs)
theorem Bd.mono {n m k l : Nat} {d : D} (h : Bd n k d) (e : n ≤ m) (f : k ≤ l) : Bd m l d := by
  induction h generalizing l with
  | none => exact .none
  | bool b => exact .bool b
  | int i => exact .int i
  | str h => exact .str h
  | list xs => exact .list xs
  | dict h => exact .dict h
  | tup h1 _ ih =>
    obtain ⟨l', rfl⟩ : ∃ l', l = l' + 1 := ⟨l - 1, by omega⟩
    exact .tup (Nat.le_trans h1 e) fun x hx => ih x hx (by omega)
theorem Bd.pl {n k : Nat} {d : D} (h : Bd n k d) (e : n ≤ 1000) : Pl d := by
  induction h with
  | none => exact .none
  | bool b => exact .bool b
  | int i => exact .int i
  | str h => exact .str h
  | list xs => exact .list xs
  | dict h => exact .dict h
  | tup h1 _ ih => exact .tup (Nat.le_trans h1 e) ih
theorem Bd.tup_of {n k : Nat} {d : D} (h : Bd n k d) (e : isTup d = true) : ∃ xs k', d = .tuple xs ∧ k = k' + 1 ∧ xs.length ≤ n ∧ ∀ x ∈ xs, Bd n k' x := by
  cases h with
  | tup h1 h2 => exact ⟨_, _, rfl, rfl, h1, h2⟩
  | _ => cases e
def oddL : List D := [.str "", .str "as", .str "a", .str "A", .str "ninesigns", .str "fail", .str "text", .str "name", .str "def", .str "star", .str "0a", .none, .bool true, .int 5, .tuple [], .list [], .dict []]
theorem odd_bd {n k : Nat} : ∀ x ∈ oddL, Bd n (k + 1) x := by
  intro x hx
  simp only [oddL, List.mem_cons, List.not_mem_nil, or_false] at hx
  rcases hx with rfl | rfl | rfl | rfl | rfl | rfl | rfl | rfl | rfl | rfl | rfl | rfl | rfl | rfl | rfl | rfl | rfl
  iterate 11 exact .str (by decide +kernel)
  · exact .none
  · exact .bool _
  · exact .int _
  · exact .tup (Nat.zero_le _) (by simp)
  · exact .list _
  · exact .dict rfl
def vfBent (n k : Nat) : VF := fun ds r Q => ∃ (d : D) (ex : List D), ds = [dSt, d, .list ex] ∧ Bd n k d ∧ ex.length ≤ 500 ∧ (∀ x ∈ ex, Bd n 3 x) ∧ r.m + 6 * (k + 1) ≤ 900000000 ∧ ∀ d' m', Bd (n + 1) (k + 4) d' → m' ≤ r.m + 6 * (k + 1) → Q d' { r with m := m' }
theorem cutFrom5 (xs : List D) (k : Nat) : cutL xs (some (k : Int)) none = xs.drop k := by
  unfold cutL
  rw [HT.sIx_none, HT.sIx_nat]
  by_cases h : k ≤ xs.length
  · rw [Nat.min_eq_left h, List.take_of_length_le (by rw [List.length_drop]; exact Nat.le_refl _)]
  · rw [Nat.min_eq_right (by omega), List.drop_length, List.drop_eq_nil_iff.mpr (by omega)]
    simp
theorem cutAt5 (xs : List D) (k : Nat) : cutL xs (some (k : Int)) (some ((k : Int) + 1)) = (xs.drop k).take 1 := by
  have e : ((k : Int) + 1) = ((k + 1 : Nat) : Int) := by omega
  rw [e]
  unfold cutL
  rw [HT.sIx_nat, HT.sIx_nat]
  by_cases h : k < xs.length
  · rw [Nat.min_eq_left (Nat.le_of_lt h), Nat.min_eq_left h]
    congr 1
    omega
  · rw [Nat.min_eq_right (by omega), Nat.min_eq_right (by omega), List.drop_length, List.drop_eq_nil_iff.mpr (by omega)]
    simp
theorem i_cut5 {s t : VTS} {N : VN} {ρ : En} {r : Rs} (J : En → Rs → Prop) (h : ∀ nx : En → Rs → Prop, (∀ ρ' r', J ρ' r' → nx ρ' r') → s ⟨nx, N.rt, N.bk, N.ct⟩ ρ r) (hJ : ∀ ρ' r', J ρ' r' → t N ρ' r') : vSeq s t N ρ r := h _ hJ
section
variable {ρ : En} {r : Rs} {va vb : VT} {xs ys : List D} {i : Nat}
theorem pv_addT (ha : PV va ρ r (.tuple xs)) (hb : PV vb ρ r (.tuple ys)) (h : xs.length + ys.length ≤ sizeLine) : PV (vOp dAdd va vb) ρ r (.tuple (xs ++ ys)) := pv_op ha hb fun R q => i_addT h q
theorem pv_lst3 {vc : VT} {x y z : D} (ha : PV va ρ r x) (hb : PV vb ρ r y) (hc : PV vc ρ r z) : PV (vLst (vCons va (vCons vb (vCons vc vNil)))) ρ r (.list [x, y, z]) := fun Q q => ha _ (hb _ (hc _ ⟨by simp [sizeLine_eq], q⟩))
theorem pv_revT (ha : PV va ρ r (.tuple xs)) : PV (vRevT va) ρ r (.tuple xs.reverse) := fun Q q => ha _ ⟨xs, rfl, q⟩
theorem pv_slFT {vc : VT} (ha : PV va ρ r (.tuple xs)) (hi : PV vb ρ r (.int (i : Nat))) (hj : PV vc ρ r (.int ((i + 1 : Nat) : Int))) : PV (vSl va (vPart vb) (vPart vc)) ρ r (.tuple ((xs.drop i).take 1)) := fun Q q => ha _ (hi _ ⟨_, rfl, hj _ ⟨_, rfl, show dSl (.tuple xs) (some ((i : Nat) : Int)) (some ((i + 1 : Nat) : Int)) (fun z => Q z r) from i_slT (by rw [show ((i + 1 : Nat) : Int) = (i : Int) + 1 by omega, cutAt5]; exact q)⟩⟩)
theorem pv_slTo (ha : PV va ρ r (.tuple xs)) (hi : PV vb ρ r (.int (i : Nat))) : PV (vSl va vNoPart (vPart vb)) ρ r (.tuple (xs.take i)) := fun Q q => ha _ (hi _ ⟨_, rfl, i_slT (by rw [cutTo5]; exact q)⟩)
theorem pv_slFrom (ha : PV va ρ r (.tuple xs)) (hi : PV vb ρ r (.int (i : Nat))) : PV (vSl va (vPart vb) vNoPart) ρ r (.tuple (xs.drop i)) := fun Q q => ha _ (hi _ ⟨_, rfl, show dSl (.tuple xs) (some ((i : Nat) : Int)) Option.none (fun z => Q z r) from i_slT (by rw [cutFrom5]; exact q)⟩)
end
section
variable {P : Program} {w : World} {K : PySem.W.Frag} {mg : Str → Option Value} {base : Heap}
theorem vok_bent1 (T : Txt K mg) {n k m : Nat} (hm : 6 ≤ m) (hn : n ≤ 900) (hk : k ≤ 50) (GT : ∀ k', k = k' + 1 → FnOk P w K mg base CX0 m T.f_law_bent T.fd_law_bent ["_law_state", "_law_worth", "_law_extra"] (spV K mF (vfBent n k'))) : FnOk P w K mg base CX0 (m + 1) T.f_law_bent T.fd_law_bent ["_law_state", "_law_worth", "_law_extra"] (spV K mF (vfBent n k)) := by
  have GT : FnOk P w K mg base CX0 m T.f_law_bent T.fd_law_bent ["_law_state", "_law_worth", "_law_extra"] (spV K mF fun ds r Q => ∃ k', k = k' + 1 ∧ vfBent n k' ds r Q) := by
    rcases Nat.eq_zero_or_pos k with h0 | h0
    · exact fnOk_no5 fun vs H Q E h => by
        obtain ⟨_, _, _, _, _, _, _, ⟨_, e, _⟩, _⟩ := h
        omega
    · obtain ⟨k', e⟩ : ∃ k', k = k' + 1 := ⟨k - 1, by omega⟩
      exact (GT k' e).imp fun vs H Q E h => by
        obtain ⟨A, W, ds, r, Q0, R, hv, ⟨k2, e2, q⟩, z⟩ := h
        have : k2 = k' := by omega
        subst this
        exact ⟨A, W, ds, r, Q0, R, hv, q, z⟩
  refine okV (M := mF) (O' := []) T.F_law_bent sc_law_bent ?_ (fun cdv A outer s H E hr => (vss_cons (vs_set (i := 3) sc_law_bent.nd rfl (Or.inl rfl) (ve_lst (va_cons ve_str.ve (va_cons ve_str.ve (va_cons ve_str.ve (va_cons ve_str.ve (va_cons ve_str.ve (va_cons ve_str.ve (va_cons ve_str.ve (va_cons ve_str.ve (va_cons ve_str.ve (va_cons ve_str.ve (va_cons ve_str.ve (va_cons ve_non.ve (va_cons ve_bl.ve (va_cons ve_int.ve (va_cons (ve_tup va_nil).ve (va_cons (ve_lst va_nil).ve (va_cons ve_disp0.ve va_nil)))))))))))))))))).ve)
      (vss_cons (vs_if (vw_or (vt_not (vt_val (ve_isi (Ts := "tuple") (by decide +kernel) (by decide +kernel) (by rfl) T.z_isinstance (by rfl) T.z_tuple (ve_var (pv 1)).vb).ve)) (vw_or (vt_cmp (cp_eqNilT hr.units) (ve_var (pv 1)).vb (ve_tup va_nil).vb) (vw_or1 (vt_cmp (cp_eq hr.units) (ve_call (vok_take T) (hr.mono (by omega)) (by rfl) T.g_law_take T.F_law_take.kp T.b_law_take (va_cons (ve_var (pv 0)) (va_cons ve_int.ve va_nil))).vb ve_int.vb)))).vt
        (vss_one (vs_ret (ve_call (vok_pick T) (hr.mono (by omega)) (by rfl) T.g_law_pick T.F_law_pick.kp T.b_law_pick (va_cons (ve_var (pv 0)) (va_cons (ve_add (ve_var (pv 3)).vb (ve_var (pv 2)).vb).ve va_nil)))))
        vss_nil)
      (vss_cons (vs_par2 (i := 4) (j := 5) (by rfl) sc_law_bent.nd rfl rfl (by decide) rfl rfl (va_cons (ve_call (vok_take T) (hr.mono (by omega)) (by rfl) T.g_law_take T.F_law_take.kp T.b_law_take (va_cons (ve_var (pv 0)) (va_cons (ve_len (by rfl) T.z_len (vab_cons (ve_var (pv 1)).vb vab_nil)).ve va_nil))) (va_cons (ve_call (vok_take T) (hr.mono (by omega)) (by rfl) T.g_law_take T.F_law_take.kp T.b_law_take (va_cons (ve_var (pv 0)) (va_cons ve_int.ve va_nil))) va_nil)) (by rfl))
      (vss_cons (vs_set (i := 6) sc_law_bent.nd rfl (Or.inl rfl) (ve_cmp (cp_eq hr.units) (ve_call (vok_take T) (hr.mono (by omega)) (by rfl) T.g_law_take T.F_law_take.kp T.b_law_take (va_cons (ve_var (pv 0)) (va_cons (vl_if (vw_and (vt_val (ve_isi (Ts := "tuple") (by decide +kernel) (by decide +kernel) (by rfl) T.z_isinstance (by rfl) T.z_tuple (ve_ix (ve_var (pv 1)).vb (ve_var (pv 4)).vb).vb).ve) (vw_and1 (vt_cmp (cp_neNilT hr.units) (ve_ix (ve_var (pv 1)).vb (ve_var (pv 4)).vb).vb (ve_tup va_nil).vb))).vt ve_int ve_int).ve va_nil))).vb ve_int.vb).ve)
      (vss_cons (vs_set (i := 7) sc_law_bent.nd rfl (Or.inl rfl) (ve_lst (va_cons (ve_add (ve_slice (ve_var (pv 1)).vb vo_none (vo_some (ve_var (pv 4)).vb)).vb (ve_slice (ve_var (pv 1)).vb (vo_some (ve_add (ve_var (pv 4)).vb ve_int.vb).vb) vo_none).vb).ve (va_cons (ve_add (ve_add (ve_slice (ve_var (pv 1)).vb vo_none (vo_some (ve_var (pv 4)).vb)).vb (ve_slice (ve_var (pv 1)).vb (vo_some (ve_var (pv 4)).vb) (vo_some (ve_add (ve_var (pv 4)).vb ve_int.vb).vb)).vb).vb (ve_slice (ve_var (pv 1)).vb (vo_some (ve_var (pv 4)).vb) vo_none).vb).ve (va_cons (ve_add (ve_slice (ve_var (pv 1)).vb vo_none (vo_some (ve_var (pv 4)).vb)).vb (ve_revT (ve_slice (ve_var (pv 1)).vb (vo_some (ve_var (pv 4)).vb) vo_none).vb).vb).ve va_nil)))).ve)
      (vss_cons (vs_set (i := 7) sc_law_bent.nd rfl (Or.inl rfl) (ve_add (ve_var (pv 7)).vb (ve_lst (va_cons (ve_list (by rfl) T.z_list (vab_cons (ve_var (pv 1)).vb vab_nil)).ve (va_cons (ve_add (ve_add (ve_slice (ve_var (pv 1)).vb vo_none (vo_some (ve_var (pv 4)).vb)).vb (ve_tup (va_cons (ve_call (vok_pick T) (hr.mono (by omega)) (by rfl) T.g_law_pick T.F_law_pick.kp T.b_law_pick (va_cons (ve_var (pv 0)) (va_cons (ve_add (ve_var (pv 3)).vb (ve_var (pv 2)).vb).ve va_nil))) va_nil)).vb).vb (ve_slice (ve_var (pv 1)).vb (vo_some (ve_var (pv 4)).vb) vo_none).vb).ve (va_cons (ve_add (ve_var (pv 1)).vb (ve_slice (ve_var (pv 1)).vb vo_none (vo_some ve_int.vb)).vb).ve va_nil)))).vb).ve)
      (vss_cons (vs_if (vt_val (ve_var (pv 6)))
        (vss_one (vs_ret (ve_ix (ve_var (pv 7)).vb (ve_var (pv 5)).vb)))
        vss_nil)
      (vss_one (vs_ret (ve_add (ve_add (ve_slice (ve_var (pv 1)).vb vo_none (vo_some (ve_var (pv 4)).vb)).vb (ve_tup (va_cons (ve_call GT hr (by rfl) T.g_law_bent T.F_law_bent.kp T.b_law_bent (va_cons (ve_var (pv 0)) (va_cons (ve_ix (ve_var (pv 1)).vb (ve_var (pv 4)).vb) (va_cons (ve_var (pv 2)) va_nil)))) va_nil)).vb).vb (ve_slice (ve_var (pv 1)).vb (vo_some (ve_add (ve_var (pv 4)).vb ve_int.vb).vb) vo_none).vb).ve)))))))))) ?_
  · rintro ds r Q ⟨d, ex, rfl, _⟩
    rfl
  · rintro ds r Q ⟨d, ex, rfl, hd, hex, hx, hmm, kk⟩
    rw [show startV n_law_bent [dSt, d, .list ex] = [some (dSt), some (d), some (.list ex), none, none, none, none, none] from rfl]
    refine i_sqSet (d := .list oddL) (fun Q q => by repeat infer_instance) ?_
    have hpl := hd.pl (by omega)
    have pick : ∀ {r' : Rs} {Q' : D → Rs → Prop}, r'.m ≤ 1000000000 → (∀ x, Bd n 3 x → Q' x { r' with m := r'.m + 1 }) → vfPick [dSt, .list (oddL ++ ex)] r' Q' := fun hm2 q => i_pickL hm2 (by simp [oddL]) (by rw [List.length_append]; have : oddL.length = 17 := rfl; omega) fun x hxm => q x ((List.mem_append.mp hxm).elim (fun h => (odd_bd x h).mono (Nat.le_refl _) (by decide : 0 + 1 ≤ 3)) (hx x))
    have pk : ∀ {m' : Nat}, m' ≤ r.m + 5 → ∀ x, Bd n 3 x → Q x { r with m := m' } := fun hm2 x h => kk x _ (h.mono (by omega) (by omega)) (by omega)
    have add : ∀ {R : D → Prop}, R (.list (oddL ++ ex)) → dAdd (.list oddL) (.list ex) R := fun q => i_addL (by rw [sizeLine_eq]; have : oddL.length = 17 := rfl; omega) q
    show vSeq _ _ _ _ _
    refine i_cut5 (fun ρ' r' => ∃ (xs : List D) (m' : Nat), d = .tuple xs ∧ xs ≠ [] ∧ r' = { r with m := m' } ∧ m' ≤ r.m + 1 ∧ ρ' = [some dSt, some d, some (.list ex), some (.list oddL), none, none, none, none]) (fun nx hN => ?_) ?_
    · repeat infer_instance
      rcases hpl.ty with ⟨nn, hnn, hne, ht⟩ | ⟨xs, rfl, hl, hxs⟩
      · refine ⟨_, hnn, ?_⟩
        rw [tyT_not hne]
        repeat infer_instance
        refine add ?_
        repeat infer_instance
        exact pick (by omega) fun x hx => pk (by omega) x hx
      · refine ⟨_, rfl, ?_⟩
        rw [tyT_yes]
        repeat infer_instance
        refine ⟨xs, rfl, rfl, ?_⟩
        repeat infer_instance
        rw [show (if false = true then !xs.isEmpty else xs.isEmpty) = xs.isEmpty from rfl]
        refine i_ite (fun h => ?_) (fun h => ?_)
        · rw [if_pos trivial]
          repeat infer_instance
          refine add ?_
          repeat infer_instance
          exact pick (by omega) fun x hx => pk (by omega) x hx
        · have hne : xs ≠ [] := fun q => by rw [q] at h; cases h
          repeat infer_instance
          refine i_take (by omega) (by decide) (by decide) fun k2 hk2 => ?_
          repeat infer_instance
          refine i_ite (fun h2 => ?_) (fun h2 => ?_)
          · repeat infer_instance
            refine add ?_
            repeat infer_instance
            exact pick (by show r.m + 1 ≤ _; omega) fun x hx => pk (by show r.m + 1 + 1 ≤ _; omega) x hx
          · repeat infer_instance
            exact hN _ _ ⟨xs, r.m + 1, rfl, hne, rfl, Nat.le_refl _, rfl⟩
    rintro ρ _ ⟨xs, m1, rfl, hne, rfl, hm1, rfl⟩
    obtain ⟨_, k', e, rfl, hl, hxs⟩ := hd.tup_of rfl
    cases e
    have hl0 : 0 < xs.length := List.length_pos_iff.mpr hne
    refine i_cut5 (fun ρ' r' => ∃ (i w m' : Nat), i < xs.length ∧ w < 6 ∧ r' = { r with m := m' } ∧ m' ≤ r.m + 3 ∧ ρ' = [some dSt, some (.tuple xs), some (.list ex), some (.list oddL), some (.int (i : Nat)), some (.int (w : Nat)), none, none]) (fun nx hN => ?_) ?_
    · repeat infer_instance
      refine i_take (by show m1 ≤ _; omega) (by omega) (by omega) fun k2 hk2 => ?_
      repeat infer_instance
      refine i_take (by show m1 + 1 ≤ _; omega) (by decide) (by decide) fun k3 hk3 => ?_
      repeat infer_instance
      exact hN _ _ ⟨k2, k3, m1 + 2, by omega, by omega, rfl, by omega, rfl⟩
    rintro ρ _ ⟨i, w, m2, hi, hw, rfl, hm2, rfl⟩
    refine i_cut5 (fun ρ' r' => ∃ (b : Bool) (m' : Nat), r' = { r with m := m' } ∧ m' ≤ r.m + 4 ∧ ρ' = [some dSt, some (.tuple xs), some (.list ex), some (.list oddL), some (.int (i : Nat)), some (.int (w : Nat)), some (.bool b), none]) (fun nx hN => ?_) ?_
    · obtain ⟨x, ex2⟩ : ∃ x, xs[i]? = some x := ⟨_, List.getElem?_eq_getElem hi⟩
      have hbx := hxs x (List.mem_of_getElem? ex2)
      have fin : ∀ {sz : Int}, 0 < sz → sz ≤ 5 → vfTake [dSt, .int sz] { r with m := m2 } fun d r1 => vC (PyData.int 0) [some dSt, some (.tuple xs), some (.list ex), some (.list oddL), some (.int (i : Nat)), some (.int (w : Nat)), none, none] r1 fun e r2 => dEq false d e fun z => nx [some dSt, some (.tuple xs), some (.list ex), some (.list oddL), some (.int (i : Nat)), some (.int (w : Nat)), some z, none] r2 := fun h1 h2 => by
        refine i_take (by show m2 ≤ _; omega) (by omega) (by omega) fun k2 hk2 => ?_
        repeat infer_instance
        exact hN _ _ ⟨_, m2 + 1, rfl, by omega, rfl⟩
      repeat infer_instance
      refine i_ixT (atI_nat ex2) ?_
      rcases (hbx.pl (by omega)).ty with ⟨nn, hnn, hne2, ht⟩ | ⟨ys, rfl, hl2, hys⟩
      · refine ⟨_, hnn, ?_⟩
        rw [tyT_not hne2]
        repeat infer_instance
        exact fin (by decide) (by decide)
      · refine ⟨_, rfl, ?_⟩
        rw [tyT_yes]
        repeat infer_instance
        refine i_ixT (atI_nat ex2) ?_
        repeat infer_instance
        refine ⟨ys, rfl, rfl, ?_⟩
        repeat infer_instance
        rw [show (if True then !ys.isEmpty else ys.isEmpty) = !ys.isEmpty from if_pos trivial]
        refine i_ite (fun h => ?_) (fun h => ?_)
        · repeat infer_instance
          exact fin (by decide) (by decide)
        · repeat infer_instance
          exact fin (by decide) (by decide)
    rintro ρ _ ⟨b, m3, rfl, hm3, rfl⟩
    have c0 : ∀ {va : VT} {ρ : En} {r' : Rs}, PV va ρ r' (.tuple xs) → True := fun _ => trivial
    have B1 : ∀ {n' k2 : Nat}, n ≤ n' → k' ≤ k2 → ∀ y ∈ xs, Bd n' k2 y := fun h1 h2 y hy => (hxs y hy).mono h1 h2
    have bt : ∀ {ys : List D}, ys.length ≤ n + 1 → (∀ y ∈ ys, Bd (n + 1) (k' + 4) y) → Bd (n + 1) (k' + 1 + 4) (.tuple ys) := fun h1 h2 => .tup h1 h2
    have ltk : (xs.take i).length ≤ xs.length := List.length_take_le' i xs
    have ldr : (xs.drop i).length ≤ xs.length := by rw [List.length_drop]; omega
    refine i_cut5 (fun ρ' r' => ∃ L3 : List D, L3.length = 3 ∧ (∀ y ∈ L3, Bd (n + 1) (k' + 1 + 4) y) ∧ r' = { r with m := m3 } ∧ ρ' = [some dSt, some (.tuple xs), some (.list ex), some (.list oddL), some (.int (i : Nat)), some (.int (w : Nat)), some (.bool b), some (.list L3)]) (fun nx hN => ?_) ?_
    · have e1 : ((i : Int) + 1) = ((i + 1 : Nat) : Int) := by omega
      have v1 : PV (vVar 1) [some dSt, some (.tuple xs), some (.list ex), some (.list oddL), some (.int (i : Nat)), some (.int (w : Nat)), some (.bool b), none] { r with m := m3 } (.tuple xs) := pv_var rfl
      have v4 : PV (vVar 4) [some dSt, some (.tuple xs), some (.list ex), some (.list oddL), some (.int (i : Nat)), some (.int (w : Nat)), some (.bool b), none] { r with m := m3 } (.int (i : Nat)) := pv_var rfl
      have v41 : PV (vOp dAdd (vVar 4) (vC (.int 1))) [some dSt, some (.tuple xs), some (.list ex), some (.list oddL), some (.int (i : Nat)), some (.int (w : Nat)), some (.bool b), none] { r with m := m3 } (.int ((i + 1 : Nat) : Int)) := pv_op v4 pv_c fun R q => i_addI (by rw [e1]; exact q)
      have sz : sizeLine = 16777216 := sizeLine_eq
      have ld1 : (xs.drop (i + 1)).length ≤ xs.length := by rw [List.length_drop]; omega
      have lt1 : ((xs.drop i).take 1).length ≤ 1 := List.length_take_le 1 _
      have ltd : (xs.take i).length + (xs.drop i).length = xs.length := by rw [List.length_take, List.length_drop]; omega
      have ltd1 : (xs.take i).length + (xs.drop (i + 1)).length ≤ xs.length := by rw [List.length_take, List.length_drop]; omega
      refine i_setP (pv_lst3 (pv_addT (pv_slTo v1 v4) (pv_slFrom v1 v41) (by omega)) (pv_addT (pv_addT (pv_slTo v1 v4) (pv_slFT v1 v4 v41) (by omega)) (pv_slFrom v1 v4) (by rw [List.length_append]; omega)) (pv_addT (pv_slTo v1 v4) (pv_revT (pv_slFrom v1 v4)) (by rw [List.length_reverse]; omega))) ?_
      refine hN _ _ ⟨_, rfl, fun y hy => ?_, rfl, rfl⟩
      have mx : ∀ {z : D}, z ∈ xs.take i ∨ z ∈ xs.drop i ∨ z ∈ xs.drop (i + 1) ∨ z ∈ (xs.drop i).take 1 → z ∈ xs := fun h => by
        rcases h with h | h | h | h
        · exact List.mem_of_mem_take h
        · exact List.mem_of_mem_drop h
        · exact List.mem_of_mem_drop h
        · exact List.mem_of_mem_drop (List.mem_of_mem_take h)
      simp only [List.mem_cons, List.not_mem_nil, or_false] at hy
      rcases hy with rfl | rfl | rfl
      · refine bt (by rw [List.length_append]; omega) fun z hz => B1 (by omega) (by omega) z ?_
        rcases List.mem_append.mp hz with h | h
        · exact mx (.inl h)
        · exact mx (.inr (.inr (.inl h)))
      · refine bt (by rw [List.length_append, List.length_append]; omega) fun z hz => B1 (by omega) (by omega) z ?_
        rcases List.mem_append.mp hz with h | h
        · rcases List.mem_append.mp h with h | h
          · exact mx (.inl h)
          · exact mx (.inr (.inr (.inr h)))
        · exact mx (.inr (.inl h))
      · refine bt (by rw [List.length_append, List.length_reverse]; omega) fun z hz => B1 (by omega) (by omega) z ?_
        rcases List.mem_append.mp hz with h | h
        · exact mx (.inl h)
        · exact mx (.inr (.inl (List.mem_reverse.mp h)))
    rintro ρ _ ⟨L3, hL3, hb3, rfl, rfl⟩
    refine i_cut5 (fun ρ' r' => ∃ L6 : List D, L6.length = 6 ∧ (∀ y ∈ L6, Bd (n + 1) (k' + 1 + 4) y) ∧ r' = { r with m := m3 + 1 } ∧ ρ' = [some dSt, some (.tuple xs), some (.list ex), some (.list oddL), some (.int (i : Nat)), some (.int (w : Nat)), some (.bool b), some (.list L6)]) (fun nx hN => ?_) ?_
    · have ltd : (xs.take i).length + (xs.drop i).length = xs.length := by rw [List.length_take, List.length_drop]; omega
      have lt1 : (xs.take 1).length ≤ 1 := List.length_take_le 1 _
      have sz : sizeLine = 16777216 := sizeLine_eq
      repeat infer_instance
      refine add ?_
      repeat infer_instance
      refine pick (by show m3 ≤ _; omega) fun x hx2 => ?_
      repeat infer_instance
      rw [cutTo5]
      refine i_addT (by rw [List.length_singleton]; omega) ?_
      repeat infer_instance
      rw [cutFrom5]
      refine i_addT (by rw [List.length_append, List.length_singleton]; omega) ?_
      repeat infer_instance
      rw [show cutL xs Option.none (some (1 : Int)) = xs.take 1 from cutTo5 xs 1]
      refine i_addT (by omega) ?_
      repeat infer_instance
      refine hN _ _ ⟨_, by rw [List.length_append, hL3]; rfl, fun y hy => ?_, rfl, rfl⟩
      rcases List.mem_append.mp hy with h | h
      · exact hb3 y h
      · simp only [List.mem_cons, List.not_mem_nil, or_false] at h
        rcases h with rfl | rfl | rfl
        · exact .list _
        · refine bt (by rw [List.length_append, List.length_append, List.length_singleton]; omega) fun z hz => ?_
          rcases List.mem_append.mp hz with h | h
          · rcases List.mem_append.mp h with h | h
            · exact B1 (by omega) (by omega) z (List.mem_of_mem_take h)
            · rw [List.mem_singleton.mp h]
              exact hx2.mono (by omega) (by omega)
          · exact B1 (by omega) (by omega) z (List.mem_of_mem_drop h)
        · refine bt (by rw [List.length_append]; omega) fun z hz => B1 (by omega) (by omega) z ?_
          rcases List.mem_append.mp hz with h | h
          · exact h
          · exact List.mem_of_mem_take h
    rintro ρ _ ⟨L6, hL6, hb6, rfl, rfl⟩
    repeat infer_instance
    cases b with
    | true =>
      rw [if_pos rfl]
      obtain ⟨y, ey⟩ : ∃ y, L6[w]? = some y := ⟨_, List.getElem?_eq_getElem (by omega)⟩
      repeat infer_instance
      refine i_ixL (atI_nat ey) ?_
      exact kk y _ (hb6 y (List.mem_of_getElem? ey)) (by omega)
    | false =>
      rw [if_neg (by decide)]
      obtain ⟨x, ex2⟩ : ∃ x, xs[i]? = some x := ⟨_, List.getElem?_eq_getElem hi⟩
      have ltd1 : (xs.take i).length + (xs.drop (i + 1)).length + 1 ≤ xs.length := by rw [List.length_take, List.length_drop]; omega
      have sz : sizeLine = 16777216 := sizeLine_eq
      repeat infer_instance
      refine i_ixT (atI_nat ex2) ?_
      repeat infer_instance
      refine ⟨k', rfl, x, ex, rfl, hxs x (List.mem_of_getElem? ex2), hex, hx, by show m3 + 1 + _ ≤ _; omega, fun d' m' hd' hm' => ?_⟩
      have hm' : m' ≤ m3 + 1 + 6 * (k' + 1) := hm'
      repeat infer_instance
      rw [cutTo5]
      refine i_addT (by rw [List.length_singleton]; omega) ?_
      repeat infer_instance
      rw [show ((i : Int) + 1) = ((i + 1 : Nat) : Int) by omega, cutFrom5]
      refine i_addT (by rw [List.length_append, List.length_singleton]; omega) ?_
      refine kk _ m' (bt (by rw [List.length_append, List.length_append, List.length_singleton]; omega) fun z hz => ?_) (by omega)
      rcases List.mem_append.mp hz with h | h
      · rcases List.mem_append.mp h with h | h
        · exact B1 (by omega) (by omega) z (List.mem_of_mem_take h)
        · rw [List.mem_singleton.mp h]
          exact hd'
      · exact B1 (by omega) (by omega) z (List.mem_of_mem_drop h)
theorem vok_bentK (T : Txt K mg) {n : Nat} (hn : n ≤ 900) : ∀ k, k ≤ 50 → FnOk P w K mg base CX0 (k + 7) T.f_law_bent T.fd_law_bent ["_law_state", "_law_worth", "_law_extra"] (spV K mF (vfBent n k))
  | 0, _ => vok_bent1 T (m := 6) (by decide) hn (by decide) fun k' e => by cases e
  | k + 1, h => vok_bent1 T (m := k + 7) (by omega) hn h fun k' e => by
    obtain rfl : k = k' := by omega
    exact vok_bentK T hn k (by omega)
/-- any tree that is not too deep is bent -/
def vfBentA : VF := fun ds r Q => ∃ n k, n ≤ 900 ∧ k ≤ 50 ∧ vfBent n k ds r Q
theorem vok_bent (T : Txt K mg) : FnOk P w K mg base CX0 57 T.f_law_bent T.fd_law_bent ["_law_state", "_law_worth", "_law_extra"] (spV K mF vfBentA) := by
  have key : ∀ {vs H Q E}, spV K mF vfBentA vs H Q E → ∃ n k, n ≤ 900 ∧ k ≤ 50 ∧ spV K mF (vfBent n k) vs H Q E := fun h => by
    obtain ⟨A, W, ds, r, Q0, R, hv, ⟨n, k, h1, h2, q⟩, z⟩ := h
    exact ⟨n, k, h1, h2, A, W, ds, r, Q0, R, hv, q, z⟩
  refine ⟨fun vs H Q E h => ?_, fun A fr s H ar us xs Q E e1 e2 e3 e4 h => ?_⟩
  · obtain ⟨n, k, h1, h2, h⟩ := key h
    have F : FnOk P w K mg base CX0 57 T.f_law_bent T.fd_law_bent ["_law_state", "_law_worth", "_law_extra"] (spV K mF (vfBent n k)) := (vok_bentK T h1 k h2).mono (by omega)
    exact F.1 vs H Q E h
  · obtain ⟨n, k, h1, h2, h⟩ := key h
    have F : FnOk P w K mg base CX0 57 T.f_law_bent T.fd_law_bent ["_law_state", "_law_worth", "_law_extra"] (spV K mF (vfBent n k)) := (vok_bentK T h1 k h2).mono (by omega)
    exact F.2 A fr s H ar us xs Q E e1 e2 e3 e4 h
end
end Sn
namespace Sn
open PySem PySem.Spec PyProof.Rows L2 TL
theorem ll_K05g_0 : ("" : Str).length = 0 := by decide +kernel
theorem ll_K05g_1 : ("a" : Str).length = 1 := by decide +kernel
theorem ll_K05g_2 : ("def" : Str).length = 3 := by decide +kernel
theorem ll_K05g_3 : ("each" : Str).length = 4 := by decide +kernel
theorem ll_K05g_4 : ("f" : Str).length = 1 := by decide +kernel
theorem ll_K05g_5 : ("fail" : Str).length = 4 := by decide +kernel
theorem ll_K05g_6 : ("if" : Str).length = 2 := by decide +kernel
theorem ll_K05g_7 : ("text" : Str).length = 4 := by decide +kernel
theorem ll_K05g_8 : ("there" : Str).length = 5 := by decide +kernel
theorem ll_K05g_9 : ("try" : Str).length = 3 := by decide +kernel
theorem ll_K05g_10 : ("x" : Str).length = 1 := by decide +kernel
local macro_rules | `(tactic| infer_instance) => `(tactic| simp only [ty_tt, ty_ts, ty_ti, ty_tl, ty_ss, ty_st])
local macro_rules | `(tactic| infer_instance) => `(tactic| assumption)
local macro_rules | `(tactic| infer_instance) => `(tactic| dsimp only [List.set, wipeE])
local macro_rules | `(tactic| infer_instance) => `(tactic| ((with_reducible refine i_pg ?_ ?_); · assumption))
local macro_rules | `(tactic| infer_instance) => `(tactic| ((with_reducible refine i_askW ?_ ?_); · assumption))
local macro_rules | `(tactic| infer_instance) => `(tactic| ((with_reducible refine i_askN ?_ ?_); · assumption))
local macro_rules | `(tactic| infer_instance) => `(tactic| ((with_reducible refine i_okT ?_ ?_); · assumption))
local macro_rules | `(tactic| infer_instance) => `(tactic| ((with_reducible refine i_cStrF ?_ ?_); · decide +kernel))
local macro_rules | `(tactic| infer_instance) => `(tactic| ((with_reducible refine i_cStrT ?_ ?_); · rfl))
local macro_rules | `(tactic| infer_instance) => `(tactic| ((with_reducible refine i_cGF ?_ ?_); · rfl))
local macro_rules | `(tactic| infer_instance) => `(tactic| ((with_reducible refine i_cGT ?_ ?_); · rfl))
local macro_rules | `(tactic| infer_instance) => `(tactic| ((with_reducible refine i_cIntF ?_ ?_); · rfl))
local macro_rules | `(tactic| infer_instance) => `(tactic| ((with_reducible refine i_cIntT ?_ ?_); · rfl))
local macro_rules | `(tactic| infer_instance) => `(tactic| ((with_reducible apply i_appPop); (focus rfl); (focus rfl)))
local macro_rules | `(tactic| infer_instance) => `(tactic| ((with_reducible apply i_insert); · rfl))
local macro_rules | `(tactic| infer_instance) => `(tactic| ((with_reducible refine i_look2F ?_ ?_); · decide +kernel))
local macro_rules | `(tactic| infer_instance) => `(tactic| ((with_reducible refine i_look2T ?_ ?_); · rfl))
local macro_rules | `(tactic| infer_instance) => `(tactic| ((with_reducible refine i_lookF ?_ ?_); · decide +kernel))
local macro_rules | `(tactic| infer_instance) => `(tactic| ((with_reducible refine i_lookT ?_ ?_); · rfl))
local macro_rules | `(tactic| infer_instance) => `(tactic| ((with_reducible refine i_exdict ?_ ?_); · rfl))
local macro_rules | `(tactic| infer_instance) => `(tactic| ((with_reducible refine i_dget2 ?_ ?_); · rfl))
local macro_rules | `(tactic| infer_instance) => `(tactic| ((with_reducible refine i_dget ?_ ?_); · rfl))
local macro_rules | `(tactic| infer_instance) => `(tactic| ((with_reducible refine i_dispQ ?_ ?_); · decide +kernel))
local macro_rules | `(tactic| infer_instance) => `(tactic| ((with_reducible refine i_le ?_ ?_); · (simp only [List.length_append, List.length_map, List.length_replicate, List.length_cons, List.length_nil, sizeLine_eq]; omega)))
local macro_rules | `(tactic| infer_instance) => `(tactic| ((with_reducible refine i_lt ?_ ?_); · (simp only [List.length_append, List.length_map, List.length_replicate, List.length_cons, List.length_nil, sizeLine_eq]; omega)))
local macro_rules | `(tactic| infer_instance) => `(tactic| ((with_reducible refine i_addL ?_ ?_); · (simp only [List.length_append, List.length_map, List.length_replicate, List.length_cons, List.length_nil, sizeLine_eq]; omega)))
local macro_rules | `(tactic| infer_instance) => `(tactic| ((with_reducible refine i_addS ?_ ?_); · (simp only [len_app, sizeLine_eq, ll_emp, ll_K05g_0, ll_K05g_1, ll_K05g_2, ll_K05g_3, ll_K05g_4, ll_K05g_5, ll_K05g_6, ll_K05g_7, ll_K05g_8, ll_K05g_9, ll_K05g_10]; omega)))
local macro_rules | `(tactic| infer_instance) => `(tactic| ((with_reducible refine i_fmtS ?_ ?_); · (simp only [len_app, sizeLine_eq, ll_emp, ll_K05g_0, ll_K05g_1, ll_K05g_2, ll_K05g_3, ll_K05g_4, ll_K05g_5, ll_K05g_6, ll_K05g_7, ll_K05g_8, ll_K05g_9, ll_K05g_10]; omega)))
local macro_rules | `(tactic| infer_instance) => `(tactic| ((with_reducible refine i_le ?_ ?_); · (simp only [len_app, sizeLine_eq, ll_emp, ll_K05g_0, ll_K05g_1, ll_K05g_2, ll_K05g_3, ll_K05g_4, ll_K05g_5, ll_K05g_6, ll_K05g_7, ll_K05g_8, ll_K05g_9, ll_K05g_10]; omega)))
local macro_rules | `(tactic| infer_instance) => `(tactic| ((with_reducible apply i_ty); · rfl))
local macro_rules | `(tactic| infer_instance) => `(tactic| ((with_reducible refine i_ninTf ?_ ?_ ?_); (focus rfl); (focus (decide +kernel))))
local macro_rules | `(tactic| infer_instance) => `(tactic| ((with_reducible refine i_ninTt ?_ ?_ ?_); (focus rfl); (focus (decide +kernel))))
local macro_rules | `(tactic| infer_instance) => `(tactic| ((with_reducible refine i_inLf ?_ ?_ ?_); (focus rfl); (focus (decide +kernel))))
local macro_rules | `(tactic| infer_instance) => `(tactic| ((with_reducible refine i_inLt ?_ ?_ ?_); (focus rfl); (focus (decide +kernel))))
local macro_rules | `(tactic| infer_instance) => `(tactic| ((with_reducible refine i_inTf ?_ ?_ ?_); (focus rfl); (focus (decide +kernel))))
local macro_rules | `(tactic| infer_instance) => `(tactic| ((with_reducible refine i_inTt ?_ ?_ ?_); (focus rfl); (focus (decide +kernel))))
local macro_rules | `(tactic| infer_instance) => `(tactic| ((with_reducible apply i_extend); · rfl))
local macro_rules | `(tactic| infer_instance) => `(tactic| ((with_reducible apply i_append); · rfl))
local macro_rules | `(tactic| infer_instance) => `(tactic| ((with_reducible refine i_notNf ?_ ?_); · rfl))
local macro_rules | `(tactic| infer_instance) => `(tactic| ((with_reducible refine i_notNt ?_ ?_); · rfl))
local macro_rules | `(tactic| infer_instance) => `(tactic| ((with_reducible refine i_isNf ?_ ?_); · rfl))
local macro_rules | `(tactic| infer_instance) => `(tactic| ((with_reducible refine i_isNt ?_ ?_); · rfl))
local macro_rules | `(tactic| infer_instance) => `(tactic| ((with_reducible apply i_ixL); · rfl))
local macro_rules | `(tactic| infer_instance) => `(tactic| ((with_reducible apply i_ixT); · rfl))
local macro_rules | `(tactic| infer_instance) => `(tactic| ((with_reducible refine i_neF ?_ ?_); · decide +kernel))
local macro_rules | `(tactic| infer_instance) => `(tactic| ((with_reducible refine i_neT ?_ ?_); · rfl))
local macro_rules | `(tactic| infer_instance) => `(tactic| ((with_reducible refine i_neF ?_ ?_); · assumption))
local macro_rules | `(tactic| infer_instance) => `(tactic| ((with_reducible refine i_eqF ?_ ?_); · assumption))
local macro_rules | `(tactic| infer_instance) => `(tactic| ((with_reducible refine i_eqF ?_ ?_); · decide +kernel))
local macro_rules | `(tactic| infer_instance) => `(tactic| ((with_reducible refine i_eqT ?_ ?_); · rfl))
local macro_rules | `(tactic| infer_instance) => `(tactic| ((with_reducible refine i_dNF ?_ ?_); (focus first | decide | omega | rfl | (simp only [List.length_cons, List.length_nil]; omega))))
local macro_rules | `(tactic| infer_instance) => `(tactic| ((with_reducible refine i_dNT ?_ ?_); (focus first | decide | omega | rfl | (simp only [List.length_cons, List.length_nil]; omega))))
local macro_rules | `(tactic| infer_instance) => `(tactic| ((with_reducible refine i_dF ?_ ?_); (focus first | decide | omega | rfl | (simp only [List.length_cons, List.length_nil]; omega))))
local macro_rules | `(tactic| infer_instance) => `(tactic| ((with_reducible refine i_dT ?_ ?_); (focus first | decide | omega | rfl | (simp only [List.length_cons, List.length_nil]; omega))))
local macro_rules | `(tactic| infer_instance) => `(tactic| ((with_reducible apply i_var); · rfl))
local macro_rules | `(tactic| infer_instance) => `(tactic| (with_reducible refine St.go ?_))
def plainD : D := .tuple [.tuple [.str "fail"]]
def exprD : D := .tuple [.tuple [.str "text", .str "a"]]
/-- a block of j more levels -/
inductive Dp5 : Nat → D → Prop
  | zero : Dp5 0 plainD
  | if1 {j : Nat} {b : D} : Dp5 j b → Dp5 (j + 1) (.tuple [.tuple [.str "if", exprD, .str "a", plainD, b]])
  | if0 {j : Nat} {b : D} : Dp5 j b → Dp5 (j + 1) (.tuple [.tuple [.str "if", exprD, .str "a", b, .tuple []]])
  | there1 {j : Nat} {b : D} : Dp5 j b → Dp5 (j + 1) (.tuple [.tuple [.str "there", exprD, plainD, b]])
  | there0 {j : Nat} {b : D} : Dp5 j b → Dp5 (j + 1) (.tuple [.tuple [.str "there", exprD, b, .tuple []]])
  | try1 {j : Nat} {b : D} : Dp5 j b → Dp5 (j + 1) (.tuple [.tuple [.str "try", plainD, b]])
  | try0 {j : Nat} {b : D} : Dp5 j b → Dp5 (j + 1) (.tuple [.tuple [.str "try", b, plainD]])
  | each {j : Nat} {b : D} : Dp5 j b → Dp5 (j + 1) (.tuple [.tuple [.str "each", .str "x", .str "a", b]])
theorem Dp5.ne {j : Nat} {b : D} (h : Dp5 j b) (B : D → Bool) : othB B b = B b := by
  cases h <;> rfl
theorem plain_blk (n : Nat) : blkB (n + 1) plainD = true := by
  show (!([PyData.tuple [.str "fail"]] : List D).isEmpty && ([PyData.tuple [.str "fail"]] : List D).all (stmB (blkB n))) = true
  rfl
theorem blk_one {n : Nat} {row : D} : blkB (n + 1) (.tuple [row]) = stmB (blkB n) row := by
  show (true && (stmB (blkB n) row && true)) = _
  simp
theorem dp_blk : ∀ {j : Nat} {b : D}, Dp5 j b → ∀ n, blkB n b = decide (j < n) := by
  intro j b h
  have px : exprB exprD = true := by decide +kernel
  have pa : wB (.str "a") = true := by decide +kernel
  have pn : nB (.str "x") = true := by decide +kernel
  have p0 : ∀ {j n : Nat}, (blkB n plainD && decide (j < n)) = decide (j < n) := fun {j n} => by
    cases n with
    | zero => rfl
    | succ n => rw [plain_blk, Bool.true_and]
  have s1 : ∀ {j n : Nat}, decide (j + 1 < n + 1) = decide (j < n) := fun {j n} => decide_eq_decide.mpr (by omega)
  induction h with
  | zero =>
    intro n
    cases n with
    | zero => rfl
    | succ n => rw [plain_blk, decide_eq_true (by omega)]
  | if1 hb ih =>
    intro n
    cases n with
    | zero => rfl
    | succ n =>
      rw [blk_one, show ∀ b, stmB (blkB n) (.tuple [.str "if", exprD, .str "a", plainD, b]) = (if (!exprB exprD || !wB (.str "a")) = true then false else blkB n plainD && othB (blkB n) b) from fun b => by kernel_rfl, px, pa, if_neg (by decide), hb.ne, ih, p0, s1]
  | if0 hb ih =>
    intro n
    cases n with
    | zero => rfl
    | succ n =>
      rw [blk_one, show ∀ b, stmB (blkB n) (.tuple [.str "if", exprD, .str "a", b, .tuple []]) = (if (!exprB exprD || !wB (.str "a")) = true then false else blkB n b && true) from fun b => by kernel_rfl, px, pa, if_neg (by decide), ih, Bool.and_true, s1]
  | there1 hb ih =>
    intro n
    cases n with
    | zero => rfl
    | succ n =>
      rw [blk_one, show ∀ b, stmB (blkB n) (.tuple [.str "there", exprD, plainD, b]) = (exprB exprD && (blkB n plainD && othB (blkB n) b)) from fun b => by kernel_rfl, px, hb.ne, ih, p0, s1]
      rfl
  | there0 hb ih =>
    intro n
    cases n with
    | zero => rfl
    | succ n =>
      rw [blk_one, show ∀ b, stmB (blkB n) (.tuple [.str "there", exprD, b, .tuple []]) = (exprB exprD && (blkB n b && true)) from fun b => by kernel_rfl, px, ih, Bool.and_true, s1]
      rfl
  | try1 hb ih =>
    intro n
    cases n with
    | zero => rfl
    | succ n =>
      rw [blk_one, show ∀ b, stmB (blkB n) (.tuple [.str "try", plainD, b]) = (blkB n plainD && blkB n b) from fun b => by kernel_rfl, ih, p0, s1]
  | try0 hb ih =>
    intro n
    cases n with
    | zero => rfl
    | succ n =>
      rw [blk_one, show ∀ b, stmB (blkB n) (.tuple [.str "try", b, plainD]) = (blkB n b && blkB n plainD) from fun b => by kernel_rfl, ih, Bool.and_comm, p0, s1]
  | each hb ih =>
    intro n
    cases n with
    | zero => rfl
    | succ n =>
      rw [blk_one, show ∀ b, stmB (blkB n) (.tuple [.str "each", .str "x", .str "a", b]) = (nB (.str "x") && (wB (.str "a") && blkB n b)) from fun b => by kernel_rfl, pn, pa, ih, s1]
      rfl
def deepD (b : D) : D := .tuple [.tuple [.str "def", .str "f", .tuple [], b]]
theorem deep_tree {j : Nat} {b : D} (h : Dp5 j b) : treeB (deepD b) = decide (j < 4) := by
  have e : treeB (deepD b) = blkB 4 b := by
    show (([PyData.tuple [.str "def", .str "f", .tuple [], b]] : List D).all itemB && decide ((([PyData.tuple [.str "def", .str "f", .tuple [], b]] : List D).filter bindsB).map fun d => sOf (at1D d)).Nodup) = _
    have e1 : itemB (.tuple [.str "def", .str "f", .tuple [], b]) = blkB 4 b := by kernel_rfl
    have e2 : decide ((([PyData.tuple [.str "def", .str "f", .tuple [], b]] : List D).filter bindsB).map fun d => sOf (at1D d)).Nodup = true := by
      refine decide_eq_true ?_
      rw [List.filter_cons]
      split <;> simp
    rw [List.all_cons, List.all_nil, Bool.and_true, e1, e2, Bool.and_true]
  rw [e, dp_blk h]
/-- the tree that is returned: plain, and whether it is one -/
def vfDeep : VF := fun ds r Q => ds = [dSt] ∧ r.m ≤ 900000000 ∧ ∀ (j : Nat) (b : D) (m' : Nat), Dp5 j b → j ≤ 5 → m' ≤ r.m + 20 → Q (.tuple [deepD b, .bool (decide (j < 4))]) { r with m := m' }
section
variable {P : Program} {w : World} {K : PySem.W.Frag} {mg : Str → Option Value} {base : Heap}
theorem vok_deep (T : Txt K mg) : FnOk P w K mg base CX0 6 T.f_law_deep T.fd_law_deep ["_law_state"] (spV K mF vfDeep) := by
  refine okV (M := mF) (O' := []) T.F_law_deep sc_law_deep ?_ (fun cdv A outer s H E hr => (vss_cons (vs_par3 (i := 1) (j := 2) (l := 3) (by rfl) sc_law_deep.nd rfl rfl rfl (by decide) (by decide) (by decide) rfl rfl rfl (va_cons (ve_add ve_int.vb (ve_call (vok_take T) (hr.mono (by decide)) (by rfl) T.g_law_take T.F_law_take.kp T.b_law_take (va_cons (ve_var (pv 0)) (va_cons ve_int.ve va_nil))).vb).ve (va_cons (ve_tup (va_cons (ve_tup (va_cons ve_str.ve va_nil)).ve va_nil)).ve (va_cons (ve_tup (va_cons (ve_tup (va_cons ve_str.ve (va_cons ve_str.ve va_nil))).ve va_nil)).ve va_nil))) (by rfl))
      (vss_cons (vs_set (i := 4) sc_law_deep.nd rfl (Or.inl rfl) (ve_var (pv 2)))
      (vss_cons (vs_for (t := (.nm 5)) PassesOwn.never rfl (vi_rng1 (by rfl) T.z_range (vab_cons (ve_sub (ve_var (pv 1)).vb ve_int.vb).vb vab_nil)) (pg_name (i := 5) sc_law_deep.nd rfl (Or.inl rfl))
        (vss_cons (vs_par2 (i := 6) (j := 7) (by rfl) sc_law_deep.nd rfl rfl (by decide) rfl rfl (va_cons (ve_call (vok_pick T) (hr.mono (by decide)) (by rfl) T.g_law_pick T.F_law_pick.kp T.b_law_pick (va_cons (ve_var (pv 0)) (va_cons (ve_lst (va_cons ve_str.ve (va_cons ve_str.ve (va_cons ve_str.ve (va_cons ve_str.ve va_nil))))).ve va_nil))) (va_cons (ve_cmp (cp_eq hr.units) (ve_call (vok_take T) (hr.mono (by decide)) (by rfl) T.g_law_take T.F_law_take.kp T.b_law_take (va_cons (ve_var (pv 0)) (va_cons ve_int.ve va_nil))).vb ve_int.vb).ve va_nil)) (by rfl))
      (vss_cons (vs_set (i := 8) sc_law_deep.nd rfl (Or.inl rfl) (vl_if (vt_val (ve_var (pv 7))) (ve_tup (va_cons (ve_var (pv 2)) (va_cons (ve_var (pv 4)) va_nil))) (ve_tup (va_cons (ve_var (pv 4)) (va_cons (ve_if (vt_cmp (cp_eq hr.units) (ve_var (pv 6)).vb ve_str.vb) (ve_var (pv 2)) (ve_tup va_nil).ve) va_nil)))).ve)
      (vss_cons (vs_set (i := 9) sc_law_deep.nd rfl (Or.inl rfl) (ve_disp (vps_cons ve_str.ve (ve_add (ve_tup (va_cons ve_str.ve (va_cons (ve_var (pv 3)) (va_cons ve_str.ve va_nil)))).vb (ve_var (pv 8)).vb).ve (vps_cons ve_str.ve (ve_add (ve_tup (va_cons ve_str.ve (va_cons (ve_var (pv 3)) va_nil))).vb (ve_var (pv 8)).vb).ve (vps_cons ve_str.ve (ve_add (ve_tup (va_cons ve_str.ve va_nil)).vb (ve_var (pv 8)).vb).ve vps_nil))) (by rfl) (by rfl) (by simp) (by decide)).ve)
      (vss_one (vs_set (i := 4) sc_law_deep.nd rfl (Or.inl rfl) (ve_tup (va_cons (ve_dget2 (hu_of hr) (ve_var (pv 9)).vb (ve_var (pv 6)).vb (ve_tup (va_cons ve_str.ve (va_cons ve_str.ve (va_cons ve_str.ve (va_cons (ve_var (pv 4)) va_nil))))).ve ⟨by rfl, by rfl, by rfl, by rfl⟩) va_nil)).ve))))))
      (vss_one (vs_ret (ve_tup (va_cons (ve_tup (va_cons (ve_tup (va_cons ve_str.ve (va_cons ve_str.ve (va_cons (ve_tup va_nil).ve (va_cons (ve_var (pv 4)) va_nil))))).ve va_nil)).ve (va_cons (ve_cmp (cp_lt) (ve_var (pv 1)).vb ve_int.vb).ve va_nil))).ve)))))) ?_
  · rintro ds r Q ⟨rfl, _⟩
    rfl
  · rintro ds r Q ⟨rfl, hm, kk⟩
    rw [show startV n_law_deep [dSt] = [some (dSt), none, none, none, none, none, none, none, none, none] from rfl]
    repeat infer_instance
    refine i_take (by omega) (by decide) (by decide) fun dp hdp => ?_
    repeat infer_instance
    refine ⟨(dp : Nat), by rw [show (1 : Int) + dp - 1 = dp by omega], by omega, by omega, ?_⟩
    rw [Int.toNat_natCast]
    refine i_loop (fun i ρ r' => ∃ (b : D) (m' : Nat) (v5 v6 v7 v8 v9 : Option D), Dp5 i b ∧ r' = { r with m := m' } ∧ m' ≤ r.m + 1 + 3 * i ∧ ρ = [some dSt, some (.int (1 + (dp : Nat))), some plainD, some exprD, some b, v5, v6, v7, v8, v9]) ⟨_, _, _, _, _, _, _, .zero, rfl, by omega, rfl⟩ ?_ ?_
    · rintro i d ρ _ nx hd ⟨b, m', v5, v6, v7, v8, v9, hb, rfl, hm', rfl⟩ hI
      have hi : i < dp := by
        have := (List.getElem?_eq_some_iff.mp hd).1
        simpa [rngD] using this
      clear hd
      refine i_bind1 ?_
      dsimp only [List.set]
      repeat infer_instance
      refine i_pickL (by show m' ≤ _; omega) (by decide) (by decide) fun x hx => ?_
      repeat infer_instance
      refine i_take (by show m' + 1 ≤ _; omega) (by decide) (by decide) fun k2 hk2 => ?_
      repeat infer_instance
      have go : ∀ {b' : D} {v5 v6 v7 v8 v9 : Option D}, Dp5 (i + 1) b' → nx [some dSt, some (.int (1 + (dp : Nat))), some plainD, some exprD, some b', v5, v6, v7, v8, v9] { r with m := m' + 1 + 1 } := fun h => hI _ _ ⟨_, _, _, _, _, _, _, h, rfl, by omega, rfl⟩
      simp only [List.mem_cons, List.not_mem_nil, or_false] at hx
      have sz : sizeLine = 16777216 := sizeLine_eq
      refine i_ite (fun h => ?_) (fun h => ?_)
      · rcases hx with rfl | rfl | rfl | rfl
        all_goals
          repeat infer_instance
          refine i_addT (by rw [sz]; simp) ?_
          repeat infer_instance
          refine i_addT (by rw [sz]; simp) ?_
          repeat infer_instance
          refine i_addT (by rw [sz]; simp) ?_
          repeat infer_instance
          refine i_dispQ (by kernel_rfl) ?_
          repeat infer_instance
        · exact go (.if1 hb)
        · exact go (.there1 hb)
        · exact go (.each hb)
        · exact go (.try1 hb)
      · rcases hx with rfl | rfl | rfl | rfl
        all_goals
          repeat infer_instance
          refine i_addT (by rw [sz]; simp) ?_
          repeat infer_instance
          refine i_addT (by rw [sz]; simp) ?_
          repeat infer_instance
          refine i_addT (by rw [sz]; simp) ?_
          repeat infer_instance
          refine i_dispQ (by kernel_rfl) ?_
          repeat infer_instance
        · exact go (.if0 hb)
        · exact go (.there0 hb)
        · exact go (.each hb)
        · exact go (.try0 hb)
    · rintro ρ _ ⟨b, m', v5, v6, v7, v8, v9, hb, rfl, hm', rfl⟩
      have hl : (rngD 0 dp).length = dp := by unfold rngD; rw [List.length_map, List.length_range]
      rw [hl] at hb hm'
      repeat infer_instance
      have := kk dp b m' hb (by omega) (by omega)
      rwa [show decide (dp < 4) = decide ((1 : Int) + (dp : Nat) < 5) from decide_eq_decide.mpr (by omega)] at this
end
end Sn
namespace Sn
open PySem PySem.Spec PyProof.Rows L2 TL
inductive PartOk : PyData → Prop
  | text {w : Str} : isW w = true → PartOk (.tuple [.str "text", .str w])
  | name {n : Str} : isN n = true → PartOk (.tuple [.str "name", .str n])
def ExprOk (d : PyData) : Prop := ∃ ps, d = .tuple ps ∧ 1 ≤ ps.length ∧ ps.length ≤ 4 ∧ ∀ p ∈ ps, PartOk p
inductive TgtOk : PyData → Prop
  | name {n : Str} : isN n = true → TgtOk (.tuple [.str "name", .str n])
  | built {e : PyData} : ExprOk e → TgtOk (.tuple [.str "built", e])
  | table {n : Str} {e : PyData} : isN n = true → ExprOk e → TgtOk (.tuple [.str "table", .str n, e])
def GivenOk (d : PyData) : Prop := ∃ es, d = .tuple es ∧ es.length ≤ 3 ∧ ∀ e ∈ es, ExprOk e
/-- a statement whose blocks are as B says -/
inductive StmtF (B : PyData → Prop) : PyData → Prop
  | fail : StmtF B (.tuple [.str "fail"])
  | ask {x : Str} : isN x = true → StmtF B (.tuple [.str "ask", .str x])
  | ret {e : PyData} : ExprOk e → StmtF B (.tuple [.str "return", e])
  | let_ {x : Str} {e : PyData} : isN x = true → ExprOk e → StmtF B (.tuple [.str "let", .str x, e])
  | call0 {t g : PyData} : TgtOk t → GivenOk g → StmtF B (.tuple [.str "call", .none, t, g])
  | call1 {x : Str} {t g : PyData} : isN x = true → TgtOk t → GivenOk g → StmtF B (.tuple [.str "call", .str x, t, g])
  | try_ {b o : PyData} : B b → B o → StmtF B (.tuple [.str "try", b, o])
  | each {x w : Str} {b : PyData} : isN x = true → isW w = true → B b → StmtF B (.tuple [.str "each", .str x, .str w, b])
  | there {e b o : PyData} : ExprOk e → B b → (o = .tuple [] ∨ B o) → StmtF B (.tuple [.str "there", e, b, o])
  | if_ {e b o : PyData} {w : Str} : ExprOk e → isW w = true → B b → (o = .tuple [] ∨ B o) → StmtF B (.tuple [.str "if", e, .str w, b, o])
/-- a block, with so many levels left (4: the block of a function) -/
def BlockOk : Nat → PyData → Prop
  | 0, _ => False
  | n + 1, d => ∃ rs, d = .tuple rs ∧ rs ≠ [] ∧ ∀ r ∈ rs, StmtF (BlockOk n) r
inductive ItemOk : PyData → Prop
  | use {x m n : Str} : isN x = true → isN m = true → isN n = true → ItemOk (.tuple [.str "use", .str x, .str m, .str n])
  | star {m : Str} : isN m = true → ItemOk (.tuple [.str "star", .str m])
  | offer {ns : List Str} : 1 ≤ ns.length → ns.length ≤ 12 → (∀ n ∈ ns, isN n = true) → ns.Nodup → ItemOk (.tuple [.str "offer", .tuple (ns.map PyData.str)])
  | entry {n : Str} : isN n = true → ItemOk (.tuple [.str "entry", .str n])
  | set {x w : Str} : isN x = true → isW w = true → ItemOk (.tuple [.str "set", .str x, .str w])
  | table {x : Str} {ps : List (Str × Str)} : isN x = true → 1 ≤ ps.length → ps.length ≤ 12 → (∀ p ∈ ps, isW p.1 = true ∧ p.1 ≠ "" ∧ isN p.2 = true) → (ps.map (·.1)).Nodup → ItemOk (.tuple [.str "table", .str x, .tuple (ps.map fun p => .tuple [.str p.1, .str p.2])])
  | def_ {x : Str} {ps : List Str} {b : PyData} : isN x = true → ps.length ≤ 3 → (∀ p ∈ ps, isN p = true) → ps.Nodup → BlockOk 4 b → ItemOk (.tuple [.str "def", .str x, .tuple (ps.map PyData.str), b])
def dStr : PyData → Str
  | .str z => z
  | _ => ""
def dItems : PyData → List PyData
  | .tuple ds => ds
  | _ => []
def partTxt : PyData → Str
  | .tuple [.str k, .str w] => if k = "text" then "\"" ++ w ++ "\"" else w
  | _ => ""
def exprTxt (d : PyData) : Str := Str.join " + " ((dItems d).map partTxt)
def tgtTxt : PyData → Str
  | .tuple [.str k, .str n] => n
  | .tuple [.str k, e] => "[" ++ exprTxt e ++ "]"
  | .tuple [.str k, .str n, e] => n ++ "[" ++ exprTxt e ++ "]"
  | _ => ""
def callTxt (t g : PyData) : Str := "call " ++ tgtTxt t ++ "(" ++ Str.join ", " ((dItems g).map exprTxt) ++ ")"
theorem isW_sg {w : Str} (h : isW w = true) : Sg w ∧ w.length ≤ 8 := by
  unfold isW at h
  simp only [Bool.and_eq_true, decide_eq_true_eq, List.all_eq_true] at h
  exact ⟨fun c hc => h.2 c hc, h.1⟩
theorem isN_w {n : Str} (h : isN n = true) : isW n = true := by
  unfold isN at h
  simp only [Bool.and_eq_true] at h
  exact h.1
theorem isN_wd {n : Str} (h : isN n = true) : Wd n := by
  refine ⟨(isW_sg (isN_w h)).1, fun e => ?_⟩
  unfold isN fstL at h
  rw [e] at h
  simp at h
theorem nm {L : List Nat} {i : Nat} {n : Str} {r : List Nat} (h : isN n = true) (a : At L i (tl n ++ r)) (s : Stp r) : pName L i = some (n, i + n.length) := by
  rw [at_name a (isN_wd h).1 s, if_pos h]
theorem At.le {L : List Nat} {i : Nat} {a r : List Nat} (h : At L i (a ++ r)) : a.length ≤ L.length := by
  unfold At at h
  have := congrArg List.length h
  rw [List.length_drop, List.length_append] at this
  omega
end Sn
namespace Sn
open PySem PySem.Spec PyProof.Rows L2 TL
/-- texts with ', ' between -/
def seqL : Bool → List Str → List Nat
  | _, [] => []
  | true, x :: xs => tl x ++ seqL false xs
  | false, x :: xs => 44 :: 32 :: (tl x ++ seqL false xs)
end Sn
namespace Sn
open PySem PySem.Spec PyProof.Rows L2 TL
def isNoneD : PyData → Bool
  | .none => true
  | _ => false
/-- the first line of a statement -/
def rowTxt : PyData → Str
  | .tuple (.str w :: rest) =>
    if w = "let" then "let " ++ dStr (rest.getD 0 .none) ++ " = " ++ exprTxt (rest.getD 1 .none)
    else if w = "ask" then "let " ++ dStr (rest.getD 0 .none) ++ " = ask"
    else if w = "call" then (if isNoneD (rest.getD 0 .none) = true then ("" : Str) else "let " ++ dStr (rest.getD 0 .none) ++ " = ") ++ callTxt (rest.getD 1 .none) (rest.getD 2 .none)
    else if w = "if" then "if " ++ exprTxt (rest.getD 0 .none) ++ " == \"" ++ dStr (rest.getD 1 .none) ++ "\":"
    else if w = "there" then "if there [" ++ exprTxt (rest.getD 0 .none) ++ "]:"
    else if w = "each" then "each " ++ dStr (rest.getD 0 .none) ++ " in \"" ++ dStr (rest.getD 1 .none) ++ "\":"
    else if w = "try" then "try:"
    else if w = "return" then "return " ++ exprTxt (rest.getD 0 .none)
    else "fail"
  | _ => ""
def tPair : PyData → Str × Str
  | .tuple [.str k, .str n] => (k, n)
  | _ => ("", "")
/-- the (first) line of an item -/
def itemTxt : PyData → Str
  | .tuple (.str w :: rest) =>
    if w = "use" then "use " ++ dStr (rest.getD 1 .none) ++ "." ++ dStr (rest.getD 2 .none) ++ (if dStr (rest.getD 0 .none) = dStr (rest.getD 2 .none) then ("" : Str) else " as " ++ dStr (rest.getD 0 .none))
    else if w = "star" then "use " ++ dStr (rest.getD 0 .none) ++ ".*"
    else if w = "offer" then "offer " ++ Str.join " " ((dItems (rest.getD 0 .none)).map dStr)
    else if w = "entry" then "entry " ++ dStr (rest.getD 0 .none)
    else if w = "set" then "set " ++ dStr (rest.getD 0 .none) ++ " = \"" ++ dStr (rest.getD 1 .none) ++ "\""
    else if w = "table" then "table " ++ dStr (rest.getD 0 .none) ++ ": " ++ Str.join " " ((dItems (rest.getD 1 .none)).map fun p => (tPair p).1 ++ "=" ++ (tPair p).2)
    else "def " ++ dStr (rest.getD 0 .none) ++ "(" ++ Str.join ", " ((dItems (rest.getD 1 .none)).map dStr) ++ "):"
  | _ => ""
end Sn
namespace Sn
open PySem PySem.Spec PyProof.Rows L2 TL
/-- a line: no line feed, at most n signs -/
structure Tx (l : List Nat) (n : Nat) : Prop where
  nf : 10 ∉ l
  len : l.length ≤ n
theorem Tx.app {a b : List Nat} {n m : Nat} (h : Tx a n) (k : Tx b m) : Tx (a ++ b) (n + m) := ⟨by simp [h.nf, k.nf], by have := h.len; have := k.len; rw [List.length_append]; omega⟩
theorem Tx.nil : Tx [] 0 := ⟨by simp, Nat.le_refl _⟩
theorem Tx.cons {c : Nat} {l : List Nat} {n : Nat} (h : Tx l n) (hc : c ≠ 10 := by decide) : Tx (c :: l) (n + 1) := ⟨by simp [h.nf, hc.symm], by have := h.len; rw [List.length_cons]; omega⟩
theorem Tx.mono {l : List Nat} {n m : Nat} (h : Tx l n) (k : n ≤ m) : Tx l m := ⟨h.nf, Nat.le_trans h.len k⟩
theorem Tx.sg {w : Str} (h : Sg w) {n : Nat} (l : w.length ≤ n) : Tx (tl w) n := ⟨fun q => absurd (h _ q) (by decide +kernel), by rw [← len_tl]; exact l⟩
theorem Tx.word {w : Str} (h : isW w = true) : Tx (tl w) 8 := .sg (isW_sg h).1 (isW_sg h).2
theorem Tx.name {w : Str} (h : isN w = true) : Tx (tl w) 8 := .word (isN_w h)
theorem Tx.join {S : List Nat} {n m : Nat} (hS : Tx S m) : ∀ {ps : List (List Nat)}, (∀ p ∈ ps, Tx p n) → Tx (joinL S ps) (ps.length * (n + m))
  | [], _ => by show Tx [] _; exact Tx.nil.mono (Nat.zero_le _)
  | [p], h => by
    have := h p (by simp)
    show Tx p _
    exact this.mono (by simp)
  | p :: q :: r, h => by
    have ih := Tx.join hS (ps := q :: r) fun x hx => h x (by simp [hx])
    have := h p (by simp)
    show Tx (p ++ (S ++ joinL S (q :: r))) _
    refine (this.app (hS.app ih)).mono ?_
    simp only [List.length_cons]
    rw [Nat.add_mul (r.length + 1) 1]
    omega
theorem Tx.seq {n : Nat} : ∀ {xs : List Str} {b : Bool}, (∀ x ∈ xs, Tx (tl x) n) → Tx (seqL b xs) (xs.length * (n + 2))
  | [], b, _ => by cases b <;> exact Tx.nil.mono (Nat.zero_le _)
  | x :: xs, true, h => by
    have ih := Tx.seq (b := false) (xs := xs) fun y hy => h y (by simp [hy])
    refine ((h x (by simp)).app ih).mono ?_
    simp only [List.length_cons]
    rw [Nat.add_mul xs.length 1]
    omega
  | x :: xs, false, h => by
    have ih := Tx.seq (b := false) (xs := xs) fun y hy => h y (by simp [hy])
    refine (((h x (by simp)).app ih).cons.cons).mono ?_
    simp only [List.length_cons]
    rw [Nat.add_mul xs.length 1]
    omega
end Sn
namespace Sn
open PySem PySem.Spec PyProof.Rows L2 TL
/-- the blanks of a level -/
def indS (lv : Nat) : Str := ⟨(List.replicate (4 * lv) 32).toArray⟩
/-- the second block of a statement, with its line -/
def secondL (B : List PyData → List Str) (lv : Nat) (z : Str) (o : PyData) : List Str := if (dItems o).isEmpty = true then [] else (indS lv ++ z) :: B (dItems o)
/-- what stands below the first line of a statement -/
def underL (B : List PyData → List Str) (lv : Nat) : PyData → List Str
  | .tuple (.str w :: rest) =>
    if w = "each" then B (dItems (rest.getD 2 .none))
    else if w = "if" then B (dItems (rest.getD 2 .none)) ++ secondL B lv "else:" (rest.getD 3 .none)
    else if w = "there" then B (dItems (rest.getD 1 .none)) ++ secondL B lv "else:" (rest.getD 2 .none)
    else if w = "try" then B (dItems (rest.getD 0 .none)) ++ secondL B lv "except:" (rest.getD 1 .none)
    else []
  | _ => []
def stmtL (B : List PyData → List Str) (lv : Nat) (d : PyData) : List Str := (indS lv ++ rowTxt d) :: underL B lv d
/-- the lines of a block at a level (fuel: levels left) -/
def blockL : Nat → Nat → List PyData → List Str
  | 0, _, _ => []
  | n + 1, lv, rows => rows.flatMap (stmtL (blockL n (lv + 1)) lv)
def itemL (d : PyData) : List Str := itemTxt d :: match d with
  | .tuple [.str w, _, _, b] => if w = "def" then blockL 4 1 (dItems b) else []
  | _ => []
def treeL (ds : List PyData) : List Str := ds.flatMap itemL
theorem shut_go {R : PR} {lv : Nat} {p : PF} {ps : List PF} (h : lv < R.frames.length) (e : R.frames = p :: ps) : R.shut lv = if p.complete = true then (({ R with frames := ps } : PR).keep p.whole).shut lv else none := by
  obtain ⟨_, _, k3⟩ := keep_size ({ R with frames := ps } : PR) p.whole
  unfold PR.shut
  rw [k3]
  have : R.frames.length = ps.length + 1 := by rw [e]; rfl
  rw [this]
  show (if R.frames.length ≤ lv then some R else match R.frames with
    | [] => some R
    | f :: fs => if f.complete = true then ({ R with frames := fs } : PR).keep f.whole |>.shutN lv ps.length else none) = _
  rw [if_neg (by omega), e]
theorem shut_frames : ∀ {n : Nat} {R R1 : PR} {a : Nat}, R.frames.length = n → R.shut a = some R1 → R1.frames.length = min R.frames.length a ∧ R1.bound = R.bound := by
  intro n
  induction n with
  | zero =>
    intro R R1 a hn h
    rw [shut_le (by omega)] at h
    cases h
    exact ⟨by omega, rfl⟩
  | succ n ih =>
    intro R R1 a hn h
    by_cases ha : R.frames.length ≤ a
    · rw [shut_le ha] at h
      cases h
      exact ⟨by omega, rfl⟩
    · cases e : R.frames with
      | nil => rw [e] at hn; cases hn
      | cons p ps =>
        rw [shut_go (by omega) e] at h
        split at h
        · obtain ⟨_, k2, k3⟩ := keep_size ({ R with frames := ps } : PR) p.whole
          obtain ⟨i1, i2⟩ := ih (by rw [k3]; rw [e] at hn; simpa using hn) h
          rw [k3] at i1
          have i1 : R1.frames.length = min ps.length a := i1
          rw [e] at ha
          simp only [List.length_cons] at ha ⊢
          exact ⟨by omega, by rw [i2, k2]⟩
        · cases h
/-- R' is R, but for deeper blocks that are still open -/
def Pend (lv : Nat) (R' R : PR) : Prop := R'.shut lv = some R ∧ R.frames.length = lv
theorem Pend.refl {R : PR} {lv : Nat} (h : R.frames.length = lv) : Pend lv R R := ⟨shut_le (by omega), h⟩
theorem Pend.le {R' R : PR} {lv : Nat} (h : Pend lv R' R) : lv ≤ R'.frames.length := by
  obtain ⟨a, _⟩ := shut_frames rfl h.1
  rw [h.2] at a
  omega
theorem readL_app : ∀ {k : Nat} {R R' : PR} {as zs : List Str}, readL k R as = .ok R' → readL k R (as ++ zs) = readL (k + as.length) R' zs
  | k, R, R', [], zs, h => by cases h; rfl
  | k, R, R', a :: as, zs, h => by
    by_cases ha : a = ""
    · subst ha
      rw [readL_skip] at h
      rw [List.cons_append, readL_skip, readL_app h, List.length_cons]
      congr 1
      omega
    · have hne : tl a ≠ [] := fun q => ha (ext_tl (by rw [q]; decide +kernel))
      cases ht : R.take a with
      | none => rw [readL_bad hne ht] at h; cases h
      | some R1 =>
        rw [readL_good hne ht] at h
        rw [List.cons_append, readL_good hne ht, readL_app h, List.length_cons]
        congr 1
        omega
theorem readL_cat {k : Nat} {R R1 R2 : PR} {as bs : List Str} (h : readL k R as = .ok R1) (h2 : readL (k + as.length) R1 bs = .ok R2) : readL k R (as ++ bs) = .ok R2 := by rw [readL_app h, h2]
def PR.keeps (R : PR) (rows : List PyData) : PR := rows.foldl PR.keep R
/-- a block is read: it is appended to the open one -/
def ReadsB (lv : Nat) (Ls : List Str) (rows : List PyData) : Prop := ∀ (k : Nat) (R' R : PR), Pend lv R' R → ∃ R'', readL k R' Ls = .ok R'' ∧ Pend lv R'' (R.keeps rows)
theorem ReadsB.nil {lv : Nat} : ReadsB lv [] [] := fun k R' R h => ⟨R', rfl, h⟩
theorem ReadsB.app {lv : Nat} {as bs : List Str} {r s : List PyData} (h : ReadsB lv as r) (h2 : ReadsB lv bs s) : ReadsB lv (as ++ bs) (r ++ s) := fun k R' R p => by
  obtain ⟨R1, e1, p1⟩ := h k R' R p
  obtain ⟨R2, e2, p2⟩ := h2 (k + as.length) R1 _ p1
  refine ⟨R2, readL_cat e1 e2, ?_⟩
  unfold PR.keeps at p2 ⊢
  rw [List.foldl_append]
  exact p2
theorem secondL_nil {B : List PyData → List Str} {lv : Nat} {z : Str} : secondL B lv z (.tuple []) = [] := rfl
theorem secondL_some {B : List PyData → List Str} {lv : Nat} {z : Str} {os : List PyData} (h : os ≠ []) : secondL B lv z (.tuple os) = (indS lv ++ z) :: B os := by
  unfold secondL
  cases os with
  | nil => exact absurd rfl h
  | cons x y => rfl
/-- the name that an item binds -/
def bindsD (d : PyData) : Option Str := if hdW d ∈ binders then some (hdN d) else none
/-- a tree -/
structure TreeOk (ds : List PyData) : Prop where
  items : ∀ d ∈ ds, ItemOk d
  nd : (ds.filterMap bindsD).Nodup
end Sn
namespace Sn
open PySem PySem.Spec PyProof.Rows L2 TL
theorem part_okB {d : D} (h : PartOk d) : partB d = true := by
  cases h with
  | text h =>
    show (decide (("text" : Str) = "text") && isW _ || _) = true
    rw [h]; rfl
  | name h =>
    rename_i n
    rw [show partB (.tuple [.str "name", .str n]) = isN n by kernel_rfl, h]
theorem expr_okB {d : D} (h : ExprOk d) : exprB d = true := by
  obtain ⟨ps, rfl, h1, h4, hp⟩ := h
  show (decide (1 ≤ ps.length) && decide (ps.length ≤ 4) && ps.all partB) = true
  rw [decide_eq_true h1, decide_eq_true h4, List.all_eq_true.mpr fun p hm => part_okB (hp p hm)]
  rfl
theorem tgt_okB {d : D} (h : TgtOk d) : tgtB d = true := by
  cases h with
  | name h =>
    show (decide (("name" : Str) = "name") && isN _ || _) = true
    rw [h]; rfl
  | built h =>
    rename_i e
    rw [show tgtB (.tuple [.str "built", e]) = exprB e by kernel_rfl, expr_okB h]
  | table h h2 =>
    show (decide (("table" : Str) = "table") && isN _ && exprB _) = true
    rw [h, expr_okB h2]; rfl
theorem given_okB {d : D} (h : GivenOk d) : givenB d = true := by
  obtain ⟨es, rfl, h3, he⟩ := h
  show (decide (es.length ≤ 3) && es.all exprB) = true
  rw [decide_eq_true h3, List.all_eq_true.mpr fun p hm => expr_okB (he p hm)]
  rfl
theorem stm_okB {B : D → Bool} {P : D → Prop} (hB : ∀ d, P d → B d = true) {d : D} (h : StmtF P d) : stmB B d = true := by
  have hO : ∀ {o : D}, (o = .tuple [] ∨ P o) → othB B o = true := fun {o} h => by
    rcases h with rfl | h
    · rfl
    · have := hB _ h
      cases o with
      | tuple xs => cases xs <;> first | rfl | exact this
      | _ => exact this
  cases h with
  | fail => kernel_rfl
  | ask h =>
    rename_i x
    rw [show stmB B (.tuple [.str "ask", .str x]) = (isN x || false) by kernel_rfl, h]; rfl
  | ret h =>
    rename_i e
    rw [show stmB B (.tuple [.str "return", e]) = exprB e by kernel_rfl, expr_okB h]
  | let_ h h2 =>
    rename_i x e
    rw [show stmB B (.tuple [.str "let", .str x, e]) = (isN x && exprB e) by kernel_rfl, h, expr_okB h2]; rfl
  | call0 h h2 =>
    rename_i t g
    rw [show stmB B (.tuple [.str "call", .none, t, g]) = (tgtB t && givenB g) by kernel_rfl, tgt_okB h, given_okB h2]; rfl
  | call1 h h2 h3 =>
    rename_i x t g
    rw [show stmB B (.tuple [.str "call", .str x, t, g]) = (isN x && (tgtB t && givenB g)) by kernel_rfl, h, tgt_okB h2, given_okB h3]; rfl
  | try_ h h2 =>
    rename_i b o
    rw [show stmB B (.tuple [.str "try", b, o]) = (B b && B o) by kernel_rfl, hB _ h, hB _ h2]; rfl
  | each h h2 h3 =>
    rename_i x w b
    rw [show stmB B (.tuple [.str "each", .str x, .str w, b]) = (isN x && (isW w && B b)) by kernel_rfl, h, h2, hB _ h3]; rfl
  | there h h2 h3 =>
    rename_i e b o
    rw [show stmB B (.tuple [.str "there", e, b, o]) = (exprB e && (B b && othB B o)) by kernel_rfl, expr_okB h, hB _ h2, hO h3]; rfl
  | if_ h h2 h3 h4 =>
    rename_i e b o w
    rw [show stmB B (.tuple [.str "if", e, .str w, b, o]) = (if (!exprB e || !isW w) = true then false else B b && othB B o) by kernel_rfl, expr_okB h, h2, hB _ h3, hO h4]; rfl
theorem blk_okB : ∀ {n : Nat} {d : D}, BlockOk n d → blkB n d = true
  | 0, _, h => h.elim
  | n + 1, d, h => by
    obtain ⟨rs, rfl, hne, hr⟩ := h
    show (!rs.isEmpty && rs.all (stmB (blkB n))) = true
    rw [List.all_eq_true.mpr fun r hm => stm_okB (fun d h => blk_okB h) (hr r hm)]
    cases rs with
    | nil => exact absurd rfl hne
    | cons r rs => rfl
theorem names_okB {lo hi : Nat} {ns : List Str} (h1 : lo ≤ ns.length) (h2 : ns.length ≤ hi) (hn : ∀ n ∈ ns, isN n = true) (nd : ns.Nodup) : namesB lo hi (.tuple (ns.map .str)) = true := by
  show (decide (lo ≤ (ns.map PyData.str).length) && decide ((ns.map PyData.str).length ≤ hi) && (ns.map PyData.str).all nB && decide ((ns.map PyData.str).map sOf).Nodup) = true
  have e : (ns.map PyData.str).map sOf = ns := by rw [List.map_map]; exact List.map_id ns
  rw [e, List.length_map, decide_eq_true h1, decide_eq_true h2, decide_eq_true nd, List.all_eq_true.mpr fun d hd => by
    obtain ⟨n, hm, rfl⟩ := List.mem_map.mp hd
    exact hn n hm]
  rfl
theorem pairs_okB {ps : List (Str × Str)} (h1 : 1 ≤ ps.length) (h2 : ps.length ≤ 12) (hp : ∀ p ∈ ps, isW p.1 = true ∧ p.1 ≠ "" ∧ isN p.2 = true) (nd : (ps.map (·.1)).Nodup) : pairsB (.tuple (ps.map fun p => .tuple [.str p.1, .str p.2])) = true := by
  show (decide (1 ≤ (ps.map fun p => PyData.tuple [.str p.1, .str p.2]).length) && decide ((ps.map fun p => PyData.tuple [.str p.1, .str p.2]).length ≤ 12) && (ps.map fun p => PyData.tuple [.str p.1, .str p.2]).all pairB && decide ((ps.map fun p => PyData.tuple [.str p.1, .str p.2]).map fun p => sOf (at0D p)).Nodup) = true
  have e : ((ps.map fun p => PyData.tuple [.str p.1, .str p.2]).map fun p => sOf (at0D p)) = ps.map (·.1) := by rw [List.map_map]; rfl
  rw [e, List.length_map, decide_eq_true h1, decide_eq_true h2, decide_eq_true nd, List.all_eq_true.mpr fun d hd => by
    obtain ⟨p, hm, rfl⟩ := List.mem_map.mp hd
    obtain ⟨a, b, c⟩ := hp p hm
    show (isW p.1 && !decide (p.1 = "") && isN p.2) = true
    rw [a, decide_eq_false b, c]
    rfl]
  rfl
theorem item_okB {d : D} (h : ItemOk d) : itemB d = true := by
  cases h with
  | use hx hm hn =>
    rename_i x m n
    rw [show itemB (.tuple [.str "use", .str x, .str m, .str n]) = (if (!isN x) = true then false else isN m && isN n) by kernel_rfl, hx, hm, hn]; rfl
  | star hm =>
    rename_i m
    rw [show itemB (.tuple [.str "star", .str m]) = (if (!isN m) = true then false else true) by kernel_rfl, hm]; rfl
  | offer h1 h12 hns nd =>
    rename_i ns
    rw [show itemB (.tuple [.str "offer", .tuple (ns.map .str)]) = namesB 1 12 (.tuple (ns.map .str)) by kernel_rfl, names_okB h1 h12 hns nd]
  | entry hm =>
    rename_i m
    rw [show itemB (.tuple [.str "entry", .str m]) = (if (!isN m) = true then false else true) by kernel_rfl, hm]; rfl
  | set hx hw =>
    rename_i x w
    rw [show itemB (.tuple [.str "set", .str x, .str w]) = (if (!isN x) = true then false else (isW w || false)) by kernel_rfl, hx, hw]; rfl
  | table hx h1 h12 hps nd =>
    rename_i x ps
    rw [show itemB (.tuple [.str "table", .str x, .tuple (ps.map fun p => .tuple [.str p.1, .str p.2])]) = (if (!isN x) = true then false else pairsB (.tuple (ps.map fun p => .tuple [.str p.1, .str p.2]))) by kernel_rfl, hx, pairs_okB h1 h12 hps nd]; rfl
  | def_ hx h3 hps nd hb =>
    rename_i x ps b
    rw [show itemB (.tuple [.str "def", .str x, .tuple (ps.map .str), b]) = (if (!isN x) = true then false else namesB 0 3 (.tuple (ps.map .str)) && blkB 4 b) by kernel_rfl, hx, names_okB (Nat.zero_le _) h3 hps nd, blk_okB hb]; rfl
theorem binds_okB {d : D} (h : ItemOk d) : bindsD d = if bindsB d = true then some (sOf (at1D d)) else none := by
  cases h <;> kernel_rfl
theorem binds_all : ∀ {ts : List D}, (∀ d ∈ ts, ItemOk d) → ts.filterMap bindsD = (ts.filter bindsB).map fun d => sOf (at1D d)
  | [], _ => rfl
  | d :: ts, h => by
    have ih := binds_all (ts := ts) fun x hx => h x (List.mem_cons_of_mem _ hx)
    have e := binds_okB (h d (by simp))
    cases q : bindsB d with
    | true =>
      rw [q, if_pos rfl] at e
      rw [List.filterMap_cons_some e, List.filter_cons_of_pos q, List.map_cons, ih]
    | false =>
      rw [q, if_neg (by decide)] at e
      rw [List.filterMap_cons_none e, List.filter_cons_of_neg (by rw [q]; decide), ih]
theorem tree_okB {ts : List D} (h : TreeOk ts) : treeB (.tuple ts) = true := by
  show (ts.all itemB && decide ((ts.filter bindsB).map fun d => sOf (at1D d)).Nodup) = true
  rw [List.all_eq_true.mpr fun d hd => item_okB (h.items d hd), ← binds_all h.items, decide_eq_true h.nd]
  rfl
end Sn
namespace Sn
open PySem PySem.Spec PyProof.Rows L2 TL
theorem len_flat5 {f : D → List Str} (h : ∀ d, 1 ≤ (f d).length) : ∀ rs : List D, rs.length ≤ (rs.flatMap f).length
  | [] => Nat.le_refl _
  | r :: rs => by
    have := len_flat5 h rs
    have := h r
    simp only [List.flatMap_cons, List.length_append, List.length_cons]
    omega
theorem len_in5 {f : D → List Str} {d : D} : ∀ {rs : List D}, d ∈ rs → (f d).length ≤ (rs.flatMap f).length
  | r :: rs, h => by
    simp only [List.flatMap_cons, List.length_append]
    rcases List.mem_cons.mp h with rfl | h
    · omega
    · have := len_in5 (f := f) h
      omega
theorem str_bd {k : Nat} {z : Str} (h : z.length ≤ 1000) : Bd 105 k (.str z) := .str h
theorem name_bd {k : Nat} {z : Str} (h : isN z = true) : Bd 105 k (.str z) := .str (by
  unfold isN isW at h
  simp only [Bool.and_eq_true, decide_eq_true_eq] at h
  omega)
theorem word_bd {k : Nat} {z : Str} (h : isW z = true) : Bd 105 k (.str z) := .str (by
  unfold isW at h
  simp only [Bool.and_eq_true, decide_eq_true_eq] at h
  omega)
theorem part_bd {k : Nat} {d : D} (h : PartOk d) : Bd 105 (k + 1) d := by
  cases h with
  | text h => exact .tup (by simp) (by intro y hy; simp only [List.mem_cons, List.not_mem_nil, or_false] at hy; rcases hy with rfl | rfl; exact str_bd (by decide +kernel); exact word_bd h)
  | name h => exact .tup (by simp) (by intro y hy; simp only [List.mem_cons, List.not_mem_nil, or_false] at hy; rcases hy with rfl | rfl; exact str_bd (by decide +kernel); exact name_bd h)
theorem expr_bd {k : Nat} {d : D} (h : ExprOk d) : Bd 105 (k + 2) d := by
  obtain ⟨ps, rfl, _, h4, hp⟩ := h
  exact .tup (by omega) fun p hm => part_bd (hp p hm)
theorem tgt_bd {k : Nat} {d : D} (h : TgtOk d) : Bd 105 (k + 3) d := by
  cases h with
  | name h => exact .tup (by simp) (by intro y hy; simp only [List.mem_cons, List.not_mem_nil, or_false] at hy; rcases hy with rfl | rfl; exact str_bd (by decide +kernel); exact name_bd h)
  | built h => exact .tup (by simp) (by intro y hy; simp only [List.mem_cons, List.not_mem_nil, or_false] at hy; rcases hy with rfl | rfl; exact str_bd (by decide +kernel); exact expr_bd h)
  | table h h2 => exact .tup (by simp) (by intro y hy; simp only [List.mem_cons, List.not_mem_nil, or_false] at hy; rcases hy with rfl | rfl | rfl; exact str_bd (by decide +kernel); exact name_bd h; exact expr_bd h2)
theorem given_bd {k : Nat} {d : D} (h : GivenOk d) : Bd 105 (k + 3) d := by
  obtain ⟨es, rfl, h3, he⟩ := h
  exact .tup (by omega) fun p hm => expr_bd (he p hm)
theorem strs_bd {k : Nat} {ns : List Str} (h : ns.length ≤ 105) (hn : ∀ n ∈ ns, isN n = true) : Bd 105 (k + 1) (.tuple (ns.map .str)) := .tup (by rw [List.length_map]; exact h) fun d hd => by
  obtain ⟨n, hm, rfl⟩ := List.mem_map.mp hd
  exact name_bd (hn n hm)
theorem second_le5 {B : List D → List Str} {lv : Nat} {z : Str} {o : D} (h : (dItems o).isEmpty = false) : (B (dItems o)).length ≤ (secondL B lv z o).length := by
  unfold secondL
  rw [if_neg (by rw [h]; decide)]
  simp
theorem stm_bd {k lv : Nat} {B : List D → List Str} {P : D → Prop} (hP : ∀ b, P b → (dItems b).isEmpty = false) (hB : ∀ b, P b → (B (dItems b)).length ≤ 105 → Bd 105 (k + 3) b) {d : D} (h : StmtF P d) (hl : (underL B lv d).length ≤ 105) : Bd 105 (k + 3 + 1) d := by
  have hO : ∀ {o : D} {z : Str}, (o = .tuple [] ∨ P o) → (secondL B lv z o).length ≤ 105 → Bd 105 (k + 3) o := fun {o z} h hl => by
    rcases h with rfl | h
    · exact .tup (Nat.zero_le _) (by simp)
    · exact hB _ h (Nat.le_trans (second_le5 (hP _ h)) hl)
  cases h with
  | fail => exact .tup (by simp) (by intro y hy; simp only [List.mem_cons, List.not_mem_nil, or_false] at hy; rcases hy with rfl; exact str_bd (by decide +kernel))
  | ask h => exact .tup (by simp) (by intro y hy; simp only [List.mem_cons, List.not_mem_nil, or_false] at hy; rcases hy with rfl | rfl; exact str_bd (by decide +kernel); exact name_bd h)
  | ret h => exact .tup (by simp) (by intro y hy; simp only [List.mem_cons, List.not_mem_nil, or_false] at hy; rcases hy with rfl | rfl; exact str_bd (by decide +kernel); exact expr_bd h)
  | let_ h h2 => exact .tup (by simp) (by intro y hy; simp only [List.mem_cons, List.not_mem_nil, or_false] at hy; rcases hy with rfl | rfl | rfl; exact str_bd (by decide +kernel); exact name_bd h; exact expr_bd h2)
  | call0 h h2 => exact .tup (by simp) (by intro y hy; simp only [List.mem_cons, List.not_mem_nil, or_false] at hy; rcases hy with rfl | rfl | rfl | rfl; exact str_bd (by decide +kernel); exact .none; exact tgt_bd h; exact given_bd h2)
  | call1 h h2 h3 => exact .tup (by simp) (by intro y hy; simp only [List.mem_cons, List.not_mem_nil, or_false] at hy; rcases hy with rfl | rfl | rfl | rfl; exact str_bd (by decide +kernel); exact name_bd h; exact tgt_bd h2; exact given_bd h3)
  | try_ h h2 =>
    rename_i b o
    rw [show underL B lv (.tuple [.str "try", b, o]) = B (dItems b) ++ secondL B lv "except:" o by kernel_rfl, List.length_append] at hl
    exact .tup (by simp) (by intro y hy; simp only [List.mem_cons, List.not_mem_nil, or_false] at hy; rcases hy with rfl | rfl | rfl; exact str_bd (by decide +kernel); exact hB _ h (by omega); exact hO (z := "except:") (.inr h2) (by omega))
  | each h h2 h3 =>
    rename_i x w b
    rw [show underL B lv (.tuple [.str "each", .str x, .str w, b]) = B (dItems b) by kernel_rfl] at hl
    exact .tup (by simp) (by intro y hy; simp only [List.mem_cons, List.not_mem_nil, or_false] at hy; rcases hy with rfl | rfl | rfl | rfl; exact str_bd (by decide +kernel); exact name_bd h; exact word_bd h2; exact hB _ h3 hl)
  | there h h2 h3 =>
    rename_i e b o
    rw [show underL B lv (.tuple [.str "there", e, b, o]) = B (dItems b) ++ secondL B lv "else:" o by kernel_rfl, List.length_append] at hl
    exact .tup (by simp) (by intro y hy; simp only [List.mem_cons, List.not_mem_nil, or_false] at hy; rcases hy with rfl | rfl | rfl | rfl; exact str_bd (by decide +kernel); exact expr_bd h; exact hB _ h2 (by omega); exact hO (z := "else:") h3 (by omega))
  | if_ h h2 h3 h4 =>
    rename_i e b o w
    rw [show underL B lv (.tuple [.str "if", e, .str w, b, o]) = B (dItems b) ++ secondL B lv "else:" o by kernel_rfl, List.length_append] at hl
    exact .tup (by simp) (by intro y hy; simp only [List.mem_cons, List.not_mem_nil, or_false] at hy; rcases hy with rfl | rfl | rfl | rfl | rfl; exact str_bd (by decide +kernel); exact expr_bd h; exact word_bd h2; exact hB _ h3 (by omega); exact hO (z := "else:") h4 (by omega))
theorem blk_ne5 {n : Nat} {b : D} (h : BlockOk n b) : (dItems b).isEmpty = false := by
  cases n with
  | zero => exact h.elim
  | succ n =>
    obtain ⟨rs, rfl, hne, _⟩ := h
    cases rs with
    | nil => exact absurd rfl hne
    | cons r rs => rfl
theorem blk_bd : ∀ {n lv : Nat} {b : D}, BlockOk n b → (blockL n lv (dItems b)).length ≤ 105 → Bd 105 (2 * n + 3) b
  | 0, _, _, h, _ => h.elim
  | n + 1, lv, b, h, hl => by
    obtain ⟨rs, rfl, hne, hr⟩ := h
    have hl : (rs.flatMap (stmtL (blockL n (lv + 1)) lv)).length ≤ 105 := hl
    have h1 := len_flat5 (f := stmtL (blockL n (lv + 1)) lv) (fun d => by simp [stmtL]) rs
    refine .tup (k := 2 * n + 3 + 1) (by omega) fun r hm => ?_
    have h2 := len_in5 (f := stmtL (blockL n (lv + 1)) lv) hm
    have h3 : (underL (blockL n (lv + 1)) lv r).length + 1 = (stmtL (blockL n (lv + 1)) lv r).length := by simp [stmtL]
    exact stm_bd (k := 2 * n) (lv := lv) (B := blockL n (lv + 1)) (fun b h => blk_ne5 h) (fun b h hl => blk_bd (lv := lv + 1) h hl) (hr r hm) (by omega)
theorem item_bd {d : D} (h : ItemOk d) (hl : (itemL d).length ≤ 105) : Bd 105 12 d := by
  cases h with
  | use hx hm hn => exact .tup (by simp) (by intro y hy; simp only [List.mem_cons, List.not_mem_nil, or_false] at hy; rcases hy with rfl | rfl | rfl | rfl; exact str_bd (by decide +kernel); exact name_bd hx; exact name_bd hm; exact name_bd hn)
  | star hm => exact .tup (by simp) (by intro y hy; simp only [List.mem_cons, List.not_mem_nil, or_false] at hy; rcases hy with rfl | rfl; exact str_bd (by decide +kernel); exact name_bd hm)
  | offer h1 h12 hns nd => exact .tup (by simp) (by intro y hy; simp only [List.mem_cons, List.not_mem_nil, or_false] at hy; rcases hy with rfl | rfl; exact str_bd (by decide +kernel); exact strs_bd (k := 10) (by omega) hns)
  | entry hm => exact .tup (by simp) (by intro y hy; simp only [List.mem_cons, List.not_mem_nil, or_false] at hy; rcases hy with rfl | rfl; exact str_bd (by decide +kernel); exact name_bd hm)
  | set hx hw => exact .tup (by simp) (by intro y hy; simp only [List.mem_cons, List.not_mem_nil, or_false] at hy; rcases hy with rfl | rfl | rfl; exact str_bd (by decide +kernel); exact name_bd hx; exact word_bd hw)
  | table hx h1 h12 hps nd =>
    refine .tup (by simp) ?_
    intro y hy
    simp only [List.mem_cons, List.not_mem_nil, or_false] at hy
    rcases hy with rfl | rfl | rfl
    · exact str_bd (by decide +kernel)
    · exact name_bd hx
    · refine .tup (k := 10) (by rw [List.length_map]; omega) fun d hd => ?_
      obtain ⟨p, hm, rfl⟩ := List.mem_map.mp hd
      obtain ⟨a, b, c⟩ := hps p hm
      exact .tup (by simp) (by intro y hy; simp only [List.mem_cons, List.not_mem_nil, or_false] at hy; rcases hy with rfl | rfl; exact word_bd a; exact name_bd c)
  | def_ hx h3 hps nd hb =>
    rename_i x ps b
    rw [show itemL (.tuple [.str "def", .str x, .tuple (ps.map .str), b]) = itemTxt (.tuple [.str "def", .str x, .tuple (ps.map .str), b]) :: blockL 4 1 (dItems b) by kernel_rfl, List.length_cons] at hl
    exact .tup (by simp) (by intro y hy; simp only [List.mem_cons, List.not_mem_nil, or_false] at hy; rcases hy with rfl | rfl | rfl | rfl; exact str_bd (by decide +kernel); exact name_bd hx; exact strs_bd (k := 10) (by omega) hps; exact blk_bd (n := 4) (lv := 1) hb (by omega))
/-- items of one line -/
theorem row_bd {d : D} (h : ItemOk d) (hw : decide (sOf (at0D d) ∈ (["def", "table"] : List Str)) = false) : Bd 105 3 d := by
  cases h with
  | use hx hm hn => exact .tup (by simp) (by intro y hy; simp only [List.mem_cons, List.not_mem_nil, or_false] at hy; rcases hy with rfl | rfl | rfl | rfl; exact str_bd (by decide +kernel); exact name_bd hx; exact name_bd hm; exact name_bd hn)
  | star hm => exact .tup (by simp) (by intro y hy; simp only [List.mem_cons, List.not_mem_nil, or_false] at hy; rcases hy with rfl | rfl; exact str_bd (by decide +kernel); exact name_bd hm)
  | offer h1 h12 hns nd => exact .tup (by simp) (by intro y hy; simp only [List.mem_cons, List.not_mem_nil, or_false] at hy; rcases hy with rfl | rfl; exact str_bd (by decide +kernel); exact strs_bd (k := 1) (by omega) hns)
  | entry hm => exact .tup (by simp) (by intro y hy; simp only [List.mem_cons, List.not_mem_nil, or_false] at hy; rcases hy with rfl | rfl; exact str_bd (by decide +kernel); exact name_bd hm)
  | set hx hw2 => exact .tup (by simp) (by intro y hy; simp only [List.mem_cons, List.not_mem_nil, or_false] at hy; rcases hy with rfl | rfl | rfl; exact str_bd (by decide +kernel); exact name_bd hx; exact word_bd hw2)
  | table hx h1 h12 hps nd => exact absurd hw (by show ¬ (decide (("table" : Str) ∈ (["def", "table"] : List Str)) = false); decide +kernel)
  | def_ hx h3 hps nd hb => exact absurd hw (by show ¬ (decide (("def" : Str) ∈ (["def", "table"] : List Str)) = false); decide +kernel)
theorem tree_bd {ts : List D} (h : TreeOk ts) (h5 : ts.length ≤ 5) (hl : (treeL ts).length ≤ 105) : Bd 105 13 (.tuple ts) := .tup (by omega) fun d hm => item_bd (h.items d hm) (Nat.le_trans (len_in5 (f := itemL) hm) hl)
end Sn
namespace Sn
open PySem PySem.Spec PyProof.Rows L2
theorem iteDF {b : Bool} {p q : Prop} (h : b = false) (x : q) : if b = true then p else q := by rw [h]; exact iteF x
theorem iteDT {b : Bool} {p q : Prop} (h : b = true) (x : p) : if b = true then p else q := by rw [h]; exact iteT x
theorem _root_.L2.SqL.at {K : PySem.W.Frag} {H : Hp} {a : Addr} {xs : List V} (h : H a = some (.lst xs)) : SqL K H a xs := .inl (.inl h)
theorem none_base {H0 H : Hp} {c : Addr} (s : Same H0 H) (h : H c = none) : H0 c = none := by
  cases e : H0 c with
  | none => rfl
  | some o => rw [s _ _ e] at h; cases h
end Sn
namespace Sn
open PySem PySem.Spec PyProof.Rows L2
def MvT (H H' : Hp) : Prop := ∀ a xs, H a = some (.tup xs) → H' a = some (.tup xs)
def St1 (H : Hp) (v : V) (dd : PyData) : Prop := ∀ H', MvT H H' → Dh H' v dd
def StA (H : Hp) (vs : List V) (ds : List PyData) : Prop := ∀ H', MvT H H' → DhAll H' vs ds
section
variable {d g c : Addr} {H H' : Hp} {m : Nat} {v : V} {vs : List V} {dd : PyData} {ds : List PyData} {K : PySem.W.Frag}
theorem MvT.refl : MvT H H := fun _ _ e => e
theorem MvT.trans {H2 : Hp} (a : MvT H H') (b : MvT H' H2) : MvT H H2 := fun x xs e => b _ _ (a _ _ e)
theorem MvT.same (s : Same H H') : MvT H H' := fun a xs e => s _ _ e
theorem MvT.mv (D : Dr H d g c m) (v : Mv d g H H') : MvT H H' := fun a xs e => by
  obtain ⟨⟨l, k, _, _, hd⟩, ⟨gs, hg⟩, _, _⟩ := D
  exact v _ _ (fun z => by rw [z, hd] at e; cases e) (fun z => by rw [z, hg] at e; cases e) e
theorem MvT.put {B : Addr} {l l' : List V} (h : H B = some (.lst l)) : MvT H (upd H B (.lst l')) := fun a xs e => by
  rw [upd_ne (fun z => by rw [z, h] at e; cases e)]
  exact e
theorem St1.mv (h : St1 H v dd) (m : MvT H H') : St1 H' v dd := fun H2 m2 => h H2 (m.trans m2)
theorem StA.mv (h : StA H vs ds) (m : MvT H H') : StA H' vs ds := fun H2 m2 => h H2 (m.trans m2)
theorem StA.nil : StA H [] [] := fun _ _ => .nil
theorem StA.cons (h : St1 H v dd) (a : StA H vs ds) : StA H (v :: vs) (dd :: ds) := fun H' m => .cons (h H' m) (a H' m)
theorem StA.app {ws : List V} {es : List PyData} (a : StA H vs ds) (b : StA H ws es) : StA H (vs ++ ws) (ds ++ es) := fun H' m => (a H' m).app (b H' m)
theorem StA.at (h : StA H vs ds) : DhAll H vs ds := h H .refl
theorem St1.str (z : Str) : St1 H (.str z) (.str z) := fun _ _ => .str z
theorem StA.all (h : ∀ H2, DhAll H2 vs ds) : StA H vs ds := fun H' _ => h H'
theorem St1.tup {p : Addr} (hp : H p = none) (a : StA H vs ds) : St1 (upd H p (.tup vs)) (.ref p) (.tuple ds) := fun H' mv =>
  .tup (mv _ _ upd_same) (a H' ((MvT.same (same_new hp)).trans mv))
theorem StA.cut (a : StA H vs ds) (lo hi : Option Int) : StA H (cutV vs lo hi) (cutD ds lo hi) := fun H' m => by
  have b := a H' m
  unfold cutV cutD
  rw [b.len]
  exact (b.drop _).take _
end
end Sn
namespace Sn
open PySem PySem.Spec PyProof.Rows L2 TL
theorem St1.bl {H : Hp} (b : Bool) : St1 H (.bl b) (.bool b) := fun _ _ => .bl b
theorem St1.int {H : Hp} (i : Int) : St1 H (.int i) (.int i) := fun _ _ => .int i
theorem St1.non {H : Hp} : St1 H .non .none := fun _ _ => .non
theorem St1.isS {H : Hp} {v : V} {z : Str} (h : St1 H v (.str z)) : v = .str z := by cases h H .refl; rfl
theorem St1.isI {H : Hp} {v : V} {i : Int} (h : St1 H v (.int i)) : v = .int i := by cases h H .refl; rfl
theorem St1.isB {H : Hp} {v : V} {b : Bool} (h : St1 H v (.bool b)) : v = .bl b := by cases h H .refl; rfl
theorem St1.isN {H : Hp} {v : V} (h : St1 H v .none) : v = .non := by cases h H .refl; rfl
theorem StA.get {H : Hp} {vs : List V} {ds : List PyData} (a : StA H vs ds) {i : Nat} {d : PyData} (h : ds[i]? = some d) : ∃ v, vs[i]? = some v ∧ St1 H v d := by
  have hi : i < vs.length := by
    rw [a.at.len]
    exact (List.getElem?_eq_some_iff.mp h).1
  refine ⟨vs[i], List.getElem?_eq_getElem hi, fun H' m => ?_⟩
  obtain ⟨e, he, hd⟩ := (a H' m).get (List.getElem?_eq_getElem hi)
  rw [h] at he
  cases he
  exact hd
/-- the expression t makes the data d -/
def Tr (t : TE) (σ : L2.St) (H : Hp) (d : PyData) : Prop := ∀ H1, Same H H1 → ∀ Q : VK, (∀ v H', Same H1 H' → St1 H' v d → Q v H') → t σ H1 Q
def TrA (t : TA) (σ : L2.St) (H : Hp) (ds : List PyData) : Prop := ∀ H1, Same H H1 → ∀ Q : List V → Hp → Prop, (∀ vs H', Same H1 H' → StA H' vs ds → Q vs H') → t σ H1 Q
def TrT (t : TT) (σ : L2.St) (H : Hp) (b : Bool) : Prop := ∀ H1, Same H H1 → ∀ Q : Bool → Hp → Prop, (∀ H', Same H1 H' → Q b H') → t σ H1 Q
def TrS (t : TE) (σ : L2.St) (H : Hp) (z : Str) (n : Nat) : Prop := Tr t σ H (.str z) ∧ z.length ≤ n
section
variable {σ : L2.St} {H : Hp} {t ta tb : TE} {d : PyData} {K : PySem.W.Frag}
theorem Tr.go {Q : VK} (h : Tr t σ H d) (k : ∀ v H', Same H H' → St1 H' v d → Q v H') : t σ H Q := h H (Same.refl H) Q k
theorem TrA.go {t : TA} {ds : List PyData} {Q : List V → Hp → Prop} (h : TrA t σ H ds) (k : ∀ vs H', Same H H' → StA H' vs ds → Q vs H') : t σ H Q := h H (Same.refl H) Q k
theorem TrT.go {t : TT} {b : Bool} {Q : Bool → Hp → Prop} (h : TrT t σ H b) (k : ∀ H', Same H H' → Q b H') : t σ H Q := h H (Same.refl H) Q k
theorem Tr.same {H' : Hp} (h : Tr t σ H d) (s : Same H H') : Tr t σ H' d := fun H1 s1 => h H1 (s.trans s1)
theorem Tr.var {i : Nat} {v : V} (e : σ[i]? = some (some v)) (h : St1 H v d) : Tr (tVar i) σ H d := fun H1 s Q k => ⟨v, e, k v H1 (Same.refl _) (h.mv (MvT.same s))⟩
theorem Tr.str {z : Str} : Tr (tC (.str z)) σ H (.str z) := fun H1 s Q k => k _ H1 (Same.refl _) (.str _)
theorem Tr.int {i : Int} : Tr (tC (.int i)) σ H (.int i) := fun H1 s Q k => k _ H1 (Same.refl _) (.int _)
theorem Tr.bl {b : Bool} : Tr (tC (.bl b)) σ H (.bool b) := fun H1 s Q k => k _ H1 (Same.refl _) (.bl _)
theorem Tr.non : Tr (tC .non) σ H .none := fun H1 s Q k => k _ H1 (Same.refl _) .non
theorem TrA.nil : TrA tNil σ H [] := fun H1 s Q k => k _ H1 (Same.refl _) .nil
theorem TrA.cons {t : TA} {ds : List PyData} (h : Tr ta σ H d) (a : TrA t σ H ds) : TrA (tCons ta t) σ H (d :: ds) := fun H1 s Q k =>
  h H1 s _ fun v H2 s2 hv => a H2 (s.trans s2) _ fun vs H3 s3 hvs => k _ H3 (s2.trans s3) (.cons (hv.mv (MvT.same s3)) hvs)
theorem Tr.tup {t : TA} {ds : List PyData} (h : TrA t σ H ds) (l : ds.length ≤ 1000 := by simp) : Tr (tTup t) σ H (.tuple ds) := fun H1 s Q k =>
  h H1 s _ fun vs H2 s2 hvs => ⟨Nat.le_of_lt (small1000 (by rw [hvs.at.len]; exact l)), fun p hp => k _ _ (s2.trans (same_new hp)) (St1.tup hp hvs)⟩
theorem Tr.eqI {x y : Int} (h : Tr ta σ H (.int x)) (h2 : Tr tb σ H (.int y)) : Tr (tOp rEq ta tb) σ H (.bool (decide (x = y))) := fun H1 s Q k =>
  h H1 s _ fun v H2 s2 hv => h2 H2 (s.trans s2) _ fun w H3 s3 hw => by
    rw [hv.isI, hw.isI]
    refine ⟨rfl, ?_⟩
    rw [show decide (V.int x = V.int y) = decide (x = y) from decide_eq_decide.mpr ⟨fun e => by injection e, fun e => by rw [e]⟩]
    exact k _ _ (s2.trans s3) (.bl _)
theorem Tr.opB {g : Int → Int → Bool} {x y : Int} (h : Tr ta σ H (.int x)) (h2 : Tr tb σ H (.int y)) : Tr (tOp (rI0 fun i j => .bl (g i j)) ta tb) σ H (.bool (g x y)) := fun H1 s Q k =>
  h H1 s _ fun v H2 s2 hv => h2 H2 (s.trans s2) _ fun w H3 s3 hw => ⟨x, y, hv.isI, hw.isI, k _ _ (s2.trans s3) (.bl _)⟩
theorem Tr.ifE {tt : TT} {b : Bool} (h : TrT tt σ H b) (h1 : b = true → Tr ta σ H d) (h2 : b = false → Tr tb σ H d) : Tr (tIf tt ta tb) σ H d := fun H1 s Q k =>
  h H1 s _ fun H2 s2 => by
    cases b with
    | true => exact iteT (h1 rfl H2 (s.trans s2) _ fun w H3 s3 hw => k _ _ (s2.trans s3) hw)
    | false => exact iteF (h2 rfl H2 (s.trans s2) _ fun w H3 s3 hw => k _ _ (s2.trans s3) hw)
theorem TrT.test {b : Bool} (h : Tr t σ H (.bool b)) : TrT (tTest t) σ H b := fun H1 s Q k => h H1 s _ fun v H2 s2 hv => ⟨b, hv.isB, k _ s2⟩
theorem TrT.or {t u : TT} {a b : Bool} (h : TrT t σ H a) (h2 : TrT u σ H b) : TrT (tOr t u) σ H (a || b) := fun H1 s Q k =>
  h H1 s _ fun H2 s2 => by
    cases a with
    | true => exact iteT (k _ s2)
    | false => exact iteF (h2 H2 (s.trans s2) _ fun H3 s3 => k _ (s2.trans s3))
theorem TrS.var {i : Nat} {z : Str} {n : Nat} (e : σ[i]? = some (some (.str z))) (h : z.length ≤ n) : TrS (tVar i) σ H z n := ⟨Tr.var e (.str _), h⟩
theorem TrS.of {z : Str} {n : Nat} (h : Tr t σ H (.str z)) (hz : z.length ≤ n) : TrS t σ H z n := ⟨h, hz⟩
theorem len_app (x y : Str) : (x ++ y).length = x.length + y.length := by rw [len_tl, tl_append, List.length_append, ← len_tl, ← len_tl]
theorem TrS.cut {x : Str} {n : Nat} {i : Int} (h : TrS ta σ H x n) (hb : n ≤ 1000 := by decide) : TrS (tSl rSlS ta tNoPart (tPart (tC (.int i)))) σ H (cutS x none (some i)) n := by
  have l1 := h.2
  refine ⟨fun H1 s Q k => h.1 H1 s _ fun v H2 s2 hv => ⟨i, rfl, x, hv.isS, Nat.le_of_lt (small1000 (by omega)), k _ _ s2 (.str _)⟩, ?_⟩
  have : (cutS x none (some i)).length ≤ x.length := by
    rw [len_tl, len_tl]
    show (((tl x).drop _).take _).length ≤ _
    rw [List.length_take, List.length_drop]
    omega
  omega
theorem Tr.ifT {tt : TT} {b : Bool} (h : TrT tt σ H b) (hb : b = true) (h1 : Tr ta σ H d) : Tr (tIf tt ta tb) σ H d := Tr.ifE h (fun _ => h1) fun q => by rw [hb] at q; cases q
theorem Tr.ifF {tt : TT} {b : Bool} (h : TrT tt σ H b) (hb : b = false) (h1 : Tr tb σ H d) : Tr (tIf tt ta tb) σ H d := Tr.ifE h (fun q => by rw [hb] at q; cases q) fun _ => h1
theorem ret_tr {D : Ends} (h : Tr t σ H d) (k : ∀ v H', Same H H' → St1 H' v d → D.rt v H') : tRet t D σ H := h.go k
theorem if_tr {c : TT} {u w : TS} {D : Ends} {b : Bool} (h : TrT c σ H b) (k1 : b = true → ∀ H', Same H H' → u D σ H') (k2 : b = false → ∀ H', Same H H' → w D σ H') : tIfS c u w D σ H := h.go fun H' s => by
  cases b with
  | true => exact iteT (k1 rfl H' s)
  | false => exact iteF (k2 rfl H' s)
end
end Sn
namespace Sn
open PySem PySem.Spec PyProof.Rows L2 TL
def wordsS : Str := "as ask call def each else entry except fail if in let offer return set table there try use"
theorem words_split : Txt.split wordsS " " = resv := by decide +kernel
section
variable {P : Program} {w : World} {K : PySem.W.Frag} {mg : Str → Option Value} {base : Heap}
def spRes : Sp := fun vs H Q _ => vs = [] ∧ ∀ p, H p = none → Q (.ref p) (upd H p (.lst (resv.map V.str)))
theorem ok_reserved (T : Txt K mg) : FnOk P w K mg base CX0 1 T.f_law_reserved T.fd_law_reserved [] spRes := by
  refine T.F_law_reserved.ok sc_law_reserved (fun vs H Q E h => ?_) (fun cdv A outer s H vs Q E hr h => ?_)
  · obtain ⟨rfl, _⟩ := h
    rfl
  · obtain ⟨rfl, k⟩ := h
    refine ⟨_, pss_cons (ps_set (i := 0) sc_law_reserved.nd rfl (Or.inl rfl) pe_str) (pss_one (ps_ret (pe_split (pv 0) pe_str))), ?_⟩
    refine ⟨_, rfl, ⟨_, rfl⟩, wordsS, " ", rfl, rfl, by decide +kernel, by decide +kernel, fun p hp => ?_⟩
    rw [words_split]
    exact k p hp
end
end Sn
namespace Sn
open PySem PySem.Spec PyProof.Rows L2 TL
section
variable {P : Program} {w : World} {K : PySem.W.Frag} {mg : Str → Option Value} {base : Heap}
/-- a drawn word: its length and its signs are told -/
def spAnyW : Sp := fun vs H Q _ => ∃ (d g c : Addr) (m a b : Nat), vs = [.ref d, .int a, .int b] ∧ Dr H d g c m ∧ m + 30 ≤ 1000000000 ∧ a ≤ b ∧ b ≤ 20 ∧
  ∀ (z : Str) (H' : Hp), a ≤ z.length → z.length ≤ b → (∀ x ∈ tl z, x ∈ tl sgnS) → Dr H' d g c (m + 30) → Mv d g H H' → Q (.str z) H'
theorem ok_any_word (T : Txt K mg) : FnOk P w K mg base CX0 4 T.f_law_any_word T.fd_law_any_word ["_law_state", "_law_least", "_law_most"] spAnyW := by
  have GT : FnOk P w K mg base CX0 2 T.f_law_take T.fd_law_take ["_law_state", "_law_size"] spTake := ok_take T
  have GP : FnOk P w K mg base CX0 3 T.f_law_pick T.fd_law_pick ["_law_state", "_law_some"] spPick := ok_pick T
  refine T.F_law_any_word.ok sc_law_any_word (fun vs H Q E h => ?_) (fun cdv A outer s H vs Q E hr h => ?_)
  · obtain ⟨d, g, c, m, a, b, rfl, _⟩ := h
    rfl
  · obtain ⟨d, g, c, m, a, b, rfl, D, hm, hab, hb, k⟩ := h
    have hr2 := hr.mono (j := 2) (by decide)
    refine ⟨_, pss_cons (ps_set (i := 3) sc_law_any_word.nd rfl (Or.inr rfl) pe_str)
      (pss_one (ps_ret (pe_join pe_str (pe_lc (own := [("_law_turn", 4)]) (g := gName 4) (by rfl) sc_law_any_word.nd
        (pi_range1 (by rfl) T.z_range (pa_cons (pe_op op_add (pv 1) (pe_call GT hr2 rfl T.g_law_take T.F_law_take.kp T.b_law_take .nil pass0 (pa_cons (pv 0) (pa_cons (pe_op op_add (pe_op op_sub (pv 2) (pv 1)) pe_int) pa_nil)))) pa_nil))
        (blkOk_by (own := [("_law_turn", 4)]) (N := n_law_any_word) (sc := defScope s_law_any_word) (by decide +kernel))
        (fun _ _ _ _ _ => pg_name (i := 4) sc_law_any_word.nd rfl (Or.inl rfl)) (fun _ _ _ _ _ => pts_nil)
        (fun _ _ _ _ _ => pe_call GP hr rfl T.g_law_pick T.F_law_pick.kp T.b_law_pick .nil pass0 (pa_cons (pv 0) (pa_cons (pv 3) pa_nil))))))), ?_⟩
    refine ⟨⟨_, rfl⟩, _, rfl, _, rfl, _, rfl, _, rfl, _, _, rfl, rfl, _, _, rfl, rfl, d, g, c, m, _, rfl, D, by omega, by omega, by omega, fun r H1 r0 r1 D1 mv1 => ?_⟩
    obtain ⟨n, rfl⟩ := Int.eq_ofNat_of_zero_le r0
    refine ⟨_, _, rfl, rfl, _, rfl, by omega, by omega, fun L hL => ?_⟩
    have nd : ∀ {m : Nat} {H2 : Hp}, Dr H2 d g c m → H2 L = none → L ≠ d ∧ L ≠ g := fun {m H2} D2 h => by
      obtain ⟨⟨l, t, _, _, hd⟩, ⟨gs, hg⟩, _, _⟩ := D2
      exact ⟨(ne_of_none hd h).symm, (ne_of_none hg h).symm⟩
    obtain ⟨nLd, nLg⟩ := nd D1 hL
    have e0 : ((a : Int) + (n : Int)).toNat = a + n := by omega
    refine lc_range (lo := 0) (n := ((a : Int) + (n : Int)).toNat) (fun i H2 => ∃ l : List Nat, l.length = i ∧ (∀ x ∈ l, x ∈ tl sgnS) ∧ H2 L = some (.lst (l.map fun c => V.str ⟨#[c]⟩)) ∧ Dr H2 d g c (m + 1 + i) ∧ Mv d g H H2)
      ⟨[], rfl, (fun x hx => nomatch hx), upd_same, D1.same (same_new hL), mv1.trans (Mv.same (same_new hL))⟩ ?_ ?_
    · rintro i H2 hi ⟨l, rfl, hs, hl, D2, mv2⟩
      refine ⟨rfl, ?_⟩
      refine ⟨_, rfl, _, rfl, d, g, c, _, D2, by omega, .inl ⟨sgnS, rfl, by decide +kernel, by decide +kernel, fun x H3 hx D3 mv3 => ?_⟩⟩
      refine ⟨_, mv3 _ _ nLd nLg hl, by rw [List.length_map]; exact small1000 (by omega), l ++ [x], by simp, ?_, ?_, ?_, ?_⟩
      · intro y hy
        rcases List.mem_append.mp hy with q | q
        · exact hs y q
        · rw [List.mem_singleton.mp q]; exact hx
      · rw [upd_same, List.map_append]; rfl
      · obtain ⟨⟨l1, t1, q0, q1, q2⟩, ⟨gs, q3⟩, ⟨cs, q4⟩, q5⟩ := D3
        have nLc : c ≠ L := fun e => by
          obtain ⟨_, _, ⟨cs', q6⟩, _⟩ := D1
          rw [e, hL] at q6; cases q6
        exact ⟨⟨l1, t1, q0, by omega, by rw [upd_ne nLd.symm]; exact q2⟩, ⟨gs, by rw [upd_ne nLg.symm]; exact q3⟩, ⟨cs, by rw [upd_ne nLc]; exact q4⟩, q5⟩
      · intro b o h1 h2 e
        have nb : b ≠ L := by
          have q := mv1 b o h1 h2 e
          exact ne_of_none q hL
        rw [upd_ne nb]
        exact mv3 _ _ h1 h2 (mv2 _ _ h1 h2 e)
    · rintro H2 ⟨l, hl0, hs, hl, D2, mv2⟩
      refine ⟨_, L, l.map (fun c => (⟨#[c]⟩ : Str)), rfl, rfl, .inl (.inl (.inl (by rw [← signs_map]; exact hl))), ?_, ?_⟩
      · have e1 : ((l.map (fun c => (⟨#[c]⟩ : Str))).map (·.length)).sum = l.length := by
          rw [List.map_map]
          have key : ∀ l : List Nat, (l.map ((fun z : Str => z.length) ∘ fun c => (⟨#[c]⟩ : Str))).sum = l.length := by
            intro l
            induction l with
            | nil => rfl
            | cons x r ih => rw [List.map_cons, List.sum_cons, ih, List.length_cons]; show 1 + r.length = _; omega
          exact key l
        rw [e1, show ("" : Str).length = 0 by decide +kernel]
        omega
      · have e := join_signs l
        have el : (Txt.join "" (l.map fun c => (⟨#[c]⟩ : Str))).length = l.length := by rw [len_tl, e]
        exact k _ _ (by omega) (by omega) (by rw [e]; exact hs) (D2.mono (by omega)) mv2
/-- a drawn name -/
def spAnyN : Sp := fun vs H Q _ => ∃ (d g c : Addr) (m : Nat), vs = [.ref d] ∧ Dr H d g c m ∧ m + 40 ≤ 1000000000 ∧
  ∀ (z : Str) (H' : Hp), isN z = true → Dr H' d g c (m + 40) → Mv d g H H' → Q (.str z) H'
theorem ok_any_name (T : Txt K mg) : FnOk P w K mg base CX0 5 T.f_law_any_name T.fd_law_any_name ["_law_state"] spAnyN := by
  have GT : FnOk P w K mg base CX0 2 T.f_law_take T.fd_law_take ["_law_state", "_law_size"] spTake := ok_take T
  have GP : FnOk P w K mg base CX0 3 T.f_law_pick T.fd_law_pick ["_law_state", "_law_some"] spPick := ok_pick T
  have GR : FnOk P w K mg base CX0 1 T.f_law_reserved T.fd_law_reserved [] spRes := ok_reserved T
  have GA : FnOk P w K mg base CX0 4 T.f_law_any_word T.fd_law_any_word ["_law_state", "_law_least", "_law_most"] spAnyW := ok_any_word T
  refine T.F_law_any_name.ok sc_law_any_name (fun vs H Q E h => ?_) (fun cdv A outer s H vs Q E hr h => ?_)
  · obtain ⟨d, g, c, m, rfl, _⟩ := h
    rfl
  · obtain ⟨d, g, c, m, rfl, D, hm, k⟩ := h
    have hr1 := hr.mono (j := 1) (by decide)
    have hr2 := hr.mono (j := 2) (by decide)
    have hr3 := hr.mono (j := 3) (by decide)
    refine ⟨_, pss_cons (ps_set (i := 1) sc_law_any_name.nd rfl (Or.inl rfl) (pe_cmpR op_eq (pe_call GT hr2 rfl T.g_law_take T.F_law_take.kp T.b_law_take .nil pass0 (pa_cons (pv 0) (pa_cons pe_int pa_nil))) pe_int (nomark _)))
      (pss_cons (ps_set (i := 2) sc_law_any_name.nd rfl (Or.inl rfl) (pe_op op_add_str (pe_call GP hr3 rfl T.g_law_pick T.F_law_pick.kp T.b_law_pick .nil pass0 (pa_cons (pv 0) (pa_cons pe_str pa_nil)))
          (pe_call GA hr rfl T.g_law_any_word T.F_law_any_word.kp T.b_law_any_word .nil pass0 (pa_cons (pv 0) (pa_cons pe_int (pa_cons pe_int pa_nil))))))
      (pss_cons (ps_if (pt_val (pv 1)) (pss_one (ps_set (i := 2) sc_law_any_name.nd rfl (Or.inl rfl)
          (pe_op op_add_str (pe_call GP hr3 rfl T.g_law_pick T.F_law_pick.kp T.b_law_pick .nil pass0 (pa_cons (pv 0) (pa_cons (pe_call0 GR hr1 rfl T.g_law_reserved T.F_law_reserved.kp T.b_law_reserved .nil pass0) pa_nil)))
            (pe_call GP hr3 rfl T.g_law_pick T.F_law_pick.kp T.b_law_pick .nil pass0 (pa_cons (pv 0) (pa_cons (pe_lst (pa_cons pe_str (pa_cons pe_str (pa_cons pe_str (pa_cons pe_str pa_nil))))) pa_nil)))))) pss_nil)
      (pss_one (ps_ret (pe_ifExp (pt_cmpR op_notIn_seq (pv 2) (pe_call0 GR hr1 rfl T.g_law_reserved T.F_law_reserved.kp T.b_law_reserved .nil pass0) (by rfl)) (pv 2)
        (pe_op op_add_str (pe_slice sl_str (pv 2) po_none (po_some pe_int)) pe_str)))))), ?_⟩
    -- near = take(state, 4) == 0
    refine ⟨_, rfl, d, g, c, m, _, rfl, D, by omega, by decide, by decide, fun r H1 r0 r1 D1 mv1 => ?_⟩
    refine ⟨rfl, ?_⟩
    -- word = pick(..) + any_word(state, 0, 7)
    refine ⟨_, rfl, d, g, c, _, D1, by omega, .inl ⟨letS, rfl, by decide +kernel, by decide +kernel, fun x H2 hx D2 mv2 => ?_⟩⟩
    refine ⟨_, rfl, d, g, c, _, 0, 7, rfl, D2, by omega, by omega, by omega, fun z H3 z0 z1 hz D3 mv3 => ?_⟩
    refine ⟨_, _, rfl, rfl, by rw [sizeLine_eq]; show 1 + z.length ≤ 16777216; omega, ?_⟩
    have m03 : Mv d g H H3 := (mv1.trans mv2).trans mv3
    have ez : tl ((⟨#[x]⟩ : Str) ++ z) = x :: tl z := by rw [tl_append]; rfl
    refine ⟨_, rfl, _, rfl, ite2 (fun _ => ?_) (fun _ => ?_)⟩
    · -- a name near to a reserved word
      refine ⟨_, rfl, rfl, fun p hp => ?_⟩
      obtain ⟨n1, n2, n3⟩ := dr_new D3 hp
      refine ⟨d, g, c, _, D3.same (same_new hp), by omega, .inr ⟨p, _, rfl, upd_same, n2, by decide +kernel, by decide +kernel, fun y H4 hy D4 mv4 => ?_⟩⟩
      obtain ⟨y, hy2, rfl⟩ := List.mem_map.mp hy
      refine ⟨_, rfl, (by show 4 ≤ sizeLine; decide), fun q hq => ?_⟩
      obtain ⟨n4, n5, n6⟩ := dr_new D4 hq
      refine ⟨d, g, c, _, D4.same (same_new hq), by omega, .inr ⟨q, sufS.map V.str, rfl, upd_same, n5, by decide +kernel, by decide +kernel, fun v H5 hv D5 mv5 => ?_⟩⟩
      obtain ⟨v, hv2, rfl⟩ := List.mem_map.mp hv
      have hN : isN (y ++ v) = true := near_ok y hy2 v hv2
      have hL := isN_len hN
      have ly := resv_len y hy2
      have lv := suf_len v hv2
      refine ⟨_, _, rfl, rfl, by rw [sizeLine_eq]; omega, ?_⟩
      have m05 : Mv d g H H5 := (((m03.trans (Mv.same (same_new hp))).trans mv4).trans (Mv.same (same_new hq))).trans mv5
      refine ⟨_, rfl, rfl, fun u hu => ?_⟩
      refine ⟨u, _, rfl, .inl (.inl (.inl upd_same)), rfl, flat_strs _, _, rfl, ?_⟩
      rw [show (if true = true then !inV (V.str (y ++ v)) (resv.map V.str) else inV (V.str (y ++ v)) (resv.map V.str)) = true by
        rw [if_pos rfl, inV_strs, decide_eq_false (isN_res hN)]; rfl]
      refine iteT ⟨_, rfl, ?_⟩
      exact k _ _ hN ((D5.same (same_new hu)).mono (by omega)) (m05.trans (Mv.same (same_new hu)))
    · refine ⟨_, rfl, rfl, fun u hu => ?_⟩
      refine ⟨u, _, rfl, .inl (.inl (.inl upd_same)), rfl, flat_strs _, _, rfl, ?_⟩
      have D4 := (D3.same (same_new (o := .lst (resv.map V.str)) hu)).mono (show m + 1 + 1 + 30 ≤ m + 40 by omega)
      have m04 := m03.trans (Mv.same (same_new (o := .lst (resv.map V.str)) hu))
      rw [show (if true = true then !inV (V.str ((⟨#[x]⟩ : Str) ++ z)) (resv.map V.str) else inV (V.str ((⟨#[x]⟩ : Str) ++ z)) (resv.map V.str)) = !decide ((⟨#[x]⟩ : Str) ++ z ∈ resv) by
        rw [if_pos rfl, inV_strs]]
      by_cases hin : (⟨#[x]⟩ : Str) ++ z ∈ resv
      · rw [decide_eq_true hin]
        refine iteF ?_
        have hl := resv_len _ hin
        refine ⟨_, rfl, _, rfl, _, rfl, by rw [sizeLine_eq]; omega, _, _, rfl, rfl, ?_, ?_⟩
        · have q := cutS_length ((⟨#[x]⟩ : Str) ++ z) none (some 7)
          rw [sizeLine_eq, show ("_" : Str).length = 1 by decide +kernel]
          omega
        · exact k _ _ (isN_cut ez hx hz) D4 m04
      · rw [decide_eq_false hin]
        refine iteT ⟨_, rfl, ?_⟩
        exact k _ _ (isN_of ez hx hz (by rw [← len_tl]; exact z1) hin) D4 m04
end
end Sn
namespace Sn
open PySem PySem.Spec PyProof.Rows L2 TL
def ltS (a b : Str) : Prop := ltCps (tl a) (tl b) = true
/-- strictly rising -/
abbrev Ris (l : List Str) : Prop := l.Pairwise ltS
end Sn
namespace Sn
open PySem PySem.Spec PyProof.Rows L2 TL
def Asc (z : Str) : Prop := ∀ c ∈ tl z, c < 128
theorem isN_sgn {z : Str} (h : isN z = true) : ∀ c ∈ tl z, c ∈ tl sgnS := fun c hc => by
  unfold isN isW at h
  simp only [Bool.and_eq_true, List.all_eq_true, decide_eq_true_eq] at h
  exact h.1.2 c hc
/-- a path, as the sets want it -/
structure Pth (z : Str) : Prop where
  p : isP z = true
  a : Asc z
  l : z.length ≤ 1000
theorem get_strs {l : List Str} {i : Nat} {x : V} (h : (l.map V.str)[i]? = some x) : ∃ z, l[i]? = some z ∧ x = V.str z := by
  rw [List.getElem?_map] at h
  cases e : l[i]? with
  | none => rw [e] at h; cases h
  | some y => rw [e] at h; exact ⟨y, rfl, (Option.some.inj h).symm⟩
end Sn
namespace Sn
open PySem PySem.Spec PyProof.Rows L2 TL
/-- who has no repetition and lies within another row is not longer -/
theorem nodup_len {α : Type} [DecidableEq α] : ∀ (l r : List α), l.Nodup → (∀ x ∈ l, x ∈ r) → l.length ≤ r.length
  | [], _, _, _ => Nat.zero_le _
  | a :: l, r, n, h => by
    have n2 := List.nodup_cons.mp n
    have ha : a ∈ r := h a (List.mem_cons.mpr (.inl rfl))
    have ih := nodup_len l (r.erase a) n2.2 fun x hx => by
      have ne : x ≠ a := fun e => n2.1 (e ▸ hx)
      exact (List.mem_erase_of_ne ne).mpr (h x (List.mem_cons.mpr (.inr hx)))
    have e := List.length_erase_of_mem ha
    have pos : 0 < r.length := List.length_pos_of_mem ha
    rw [List.length_cons]
    omega
def numS (j : Nat) : Str := toString ((10 : Int) + (j : Int))
theorem num_two : ∀ j ∈ List.range 30, (tl (numS j)).length = 2 ∧ (∀ c ∈ tl (numS j), c ∈ tl sgnS) ∧ (∀ r ∈ resv, ∀ c ∈ tl (numS j), c ∉ tl r) := by decide +kernel
theorem num_nd : ((List.range 30).map fun j => tl (numS j)).Nodup := by decide +kernel
theorem cut6 (z : Str) : tl (cutS z none (some 6)) = (tl z).take 6 := by
  unfold cutS
  rw [show HT.sIx z.length z.length (some 6) = min 6 z.length from HT.sIx_nat _ _ 6, HT.sIx_none]
  show ((tl z).drop 0).take (min 6 z.length - 0) = _
  rw [List.drop_zero, Nat.sub_zero, len_tl, List.take_eq_take_iff]
  omega
/-- what may be put in the place of a drawn name -/
def cand (z : Str) (j : Nat) : Str := cutS z none (some 6) ++ numS j
def cands (z : Str) : List Str := z :: (List.range 30).map (cand z)
theorem isN_head {z : Str} (h : isN z = true) : ∃ c r, tl z = c :: r ∧ c ∈ tl letS ∧ ∀ x ∈ r, x ∈ tl sgnS := by
  have hs := isN_sgn h
  unfold isN at h
  simp only [Bool.and_eq_true] at h
  have hf := h.2.1
  unfold fstL at hf
  match e : tl z with
  | [] => rw [e] at hf; cases hf
  | c :: r =>
    rw [e] at hf
    exact ⟨c, r, rfl, by simpa using hf, fun x hx => hs x (by rw [e]; exact List.mem_cons.mpr (.inr hx))⟩
theorem cand_ok {z : Str} (h : isN z = true) {j : Nat} (hj : j < 30) : isN (cand z j) = true := by
  obtain ⟨c, r, e, hc, hr⟩ := isN_head h
  obtain ⟨h2, hs, hn⟩ := num_two j (List.mem_range.mpr hj)
  have e2 : tl (cand z j) = c :: (r.take 5 ++ tl (numS j)) := by
    unfold cand
    rw [tl_append, cut6, e]; rfl
  refine isN_of e2 hc (fun x hx => ?_) (by rw [List.length_append, List.length_take, h2]; omega) fun hm => ?_
  · rcases List.mem_append.mp hx with q | q
    · exact hr x (List.mem_of_mem_take q)
    · exact hs x q
  · match e3 : tl (numS j) with
    | [] => rw [e3] at h2; cases h2
    | d :: r3 =>
      exact hn _ hm d (by rw [e3]; simp) (by rw [e2, e3]; simp)
theorem cands_ok {z : Str} (h : isN z = true) : ∀ y ∈ cands z, isN y = true := by
  intro y hy
  rcases List.mem_cons.mp hy with rfl | hy
  · exact h
  · obtain ⟨j, hj, rfl⟩ := List.mem_map.mp hy
    exact cand_ok h (List.mem_range.mp hj)
theorem cand_nd (z : Str) : ((List.range 30).map (cand z)).Nodup := by
  have h : ((List.range 30).map fun j => tl (cand z j)).Nodup := by
    have e : ((List.range 30).map fun j => tl (cand z j)) = ((List.range 30).map fun j => tl (numS j)).map fun l => (tl z).take 6 ++ l := by
      rw [List.map_map]
      refine List.map_congr_left fun j _ => ?_
      show tl (cand z j) = (tl z).take 6 ++ tl (numS j)
      unfold cand
      rw [tl_append, cut6]
    rw [e]
    exact List.Pairwise.map _ (fun a b ne q => ne (List.append_cancel_left q)) num_nd
  have e2 : ((List.range 30).map fun j => tl (cand z j)) = ((List.range 30).map (cand z)).map tl := by rw [List.map_map]; rfl
  rw [e2] at h
  exact List.Pairwise.of_map tl (fun a b ne q => ne (q ▸ rfl)) h
/-- one of them is new -/
theorem cand_new {z : Str} {l : List Str} (hl : l.length < 30) : (cands z).filter (fun y => !decide (y ∈ l)) ≠ [] := by
  intro e
  have h : ∀ y ∈ (List.range 30).map (cand z), y ∈ l := by
    intro y hy
    have h2 := List.filter_eq_nil_iff.mp e y (List.mem_cons.mpr (.inr hy))
    simpa using h2
  have q := nodup_len _ l (cand_nd z) h
  rw [List.length_map, List.length_range] at q
  omega
end Sn
namespace Sn
open PySem PySem.Spec PyProof.Rows L2 TL
theorem takes1 {α : Type} {l : List α} {i : Nat} {x : α} (h : l[i]? = some x) : l.take (i + 1) = l.take i ++ [x] := by
  rw [List.take_add_one, h]; rfl
/-- a set of paths stands at a: its paths are ys -/
structure Nm (C : Addr) (H : Hp) (a : Addr) (ys : List Str) : Prop where
  at_ : ∃ dx t, H a = some (.ins C dx [("paths", .ref t)]) ∧ H t = some (.tup (ys.map V.str))
  ris : Ris ys
  pth : ∀ z ∈ ys, Pth z
theorem Nm.same {C : Addr} {H H' : Hp} {a : Addr} {ys : List Str} (h : Nm C H a ys) (s : Same H H') : Nm C H' a ys := by
  obtain ⟨⟨dx, t, h1, h2⟩, r, p⟩ := h
  exact ⟨⟨dx, t, s _ _ h1, s _ _ h2⟩, r, p⟩
theorem fl_take {l : List Str} {i : Nat} {z : Str} (p : Str → Bool) (h : l[i]? = some z) : (l.take (i + 1)).filter p = (l.take i).filter p ++ if p z = true then [z] else [] := by
  rw [takes1 h, List.filter_append]
  congr 1
  by_cases e : p z = true
  · rw [if_pos e, List.filter_cons_of_pos e]; rfl
  · rw [if_neg e, List.filter_cons_of_neg e]; rfl
theorem fl_len {l : List Str} (i : Nat) (p : Str → Bool) : ((l.take i).filter p).length ≤ l.length :=
  Nat.le_trans (List.length_filter_le _ _) (by rw [List.length_take]; omega)
end Sn
namespace Sn
open PySem PySem.Spec PyProof.Rows L2 TL
theorem num_log : ∀ j ∈ List.range 30, ((10 : Int) + (j : Int)).natAbs.log2 < 1920 := by decide +kernel
section
variable {P : Program} {w : World} {K : PySem.W.Frag} {mg : Str → Option Value} {base : Heap}
/-- n drawn names, all different -/
def spDNames : Sp := fun vs H Q _ => ∃ (d g c : Addr) (m n : Nat), vs = [.ref d, .int n] ∧ Dr H d g c m ∧ m + 40 * n ≤ 1000000000 ∧ n ≤ 30 ∧
  ∀ (q : Addr) (l : List Str) (H' : Hp), H q = none → l.length = n → l.Nodup → (∀ z ∈ l, isN z = true) → H' q = some (.lst (l.map V.str)) → Dr H' d g c (m + 40 * n) → Mv d g H H' → Q (.ref q) H'
theorem ok_dnames (T : Txt K mg) : FnOk P w K mg base CX0 6 T.f_law_names T.fd_law_names ["_law_state", "_law_many"] spDNames := by
  refine T.F_law_names.ok sc_law_names (fun vs H Q E h => ?_) (fun cdv A outer s H vs Q E hr h => ?_)
  · obtain ⟨d, g, c, m, n, rfl, _⟩ := h
    rfl
  · obtain ⟨d, g, c, m, n, rfl, D, hm, hn, k⟩ := h
    refine ⟨_, (pss_cons (ps_set (i := 2) sc_law_names.nd rfl (Or.inr rfl) (pe_lst pa_nil))
      (pss_cons (ps_for PassesOwn.never rfl (pi_range1 (by rfl) T.z_range (pa_cons (pv 1) pa_nil)) (pg_name (i := 3) sc_law_names.nd rfl (Or.inl rfl))
        (pss_cons (ps_set (i := 4) sc_law_names.nd rfl (Or.inr rfl) (pe_call (ok_any_name T) (hr.mono (by decide)) rfl T.g_law_any_name T.F_law_any_name.kp T.b_law_any_name .nil pass0 (pa_cons (pv 0) pa_nil)))
      (pss_cons (ps_set (i := 5) sc_law_names.nd rfl (Or.inl rfl) (pe_op op_cat (pe_lst (pa_cons (pv 4) pa_nil)) (pe_lc (own := [("_law_k", 6)]) (g := gName 6) (by rfl) sc_law_names.nd (pi_range2 (by rfl) T.z_range (pa_cons pe_int (pa_cons pe_int pa_nil))) (blkOk_by (own := [("_law_k", 6)]) (N := n_law_names) (sc := defScope s_law_names) (by decide +kernel)) (fun _ _ _ _ _ => (pg_name (i := 6) sc_law_names.nd rfl (Or.inl rfl))) (fun _ _ _ _ _ => pts_nil) (fun _ _ _ _ _ => (pe_op op_add_str (pe_slice sl_str (pv 4) po_none (po_some pe_int)) (pe_callTy call_str_int (by rfl) T.z_str (by decide +kernel) (pa_cons (pv 6) pa_nil)))))))
      (pss_one (ps_expr (pe_bm PySem.F.plainAttrs_list PySem.F.slot_list_append PySem.F.type_list_append mt_append (pv 2) (pa_cons (pe_ix (ix_listK (K := K)) (pe_lc (own := [("_law_here", 7)]) (g := gName 7) (by rfl) sc_law_names.nd (pi_list (pv 5)) (blkOk_by (own := [("_law_here", 7)]) (N := n_law_names) (sc := defScope s_law_names) (by decide +kernel)) (fun _ _ _ _ _ => (pg_name (i := 7) sc_law_names.nd rfl (Or.inl rfl))) (fun _ _ _ _ _ => (pts_one (pt_cmpR (op_notIn_seqK (K := K)) (pv 7) (pv 2) (by rfl)))) (fun _ _ _ _ _ => (pv 7))) pe_int (fun _ _ => rfl)) pa_nil)))))))
      (pss_one (ps_ret (pv 2))))), ?_⟩
    refine ⟨(by show 0 ≤ sizeLine; decide), fun L hL => ?_⟩
    have nL := dr_new D hL
    refine ⟨_, rfl, _, rfl, by omega, by omega, ?_⟩
    refine for_range (lo := 0) (n := n) (fun i σ H2 => ∃ (l : List Str) (v3 v4 v5 v6 v7 : Option V), σ = [some (.ref d), some (.int n), some (.ref L), v3, v4, v5, v6, v7] ∧ l.length = i ∧ l.Nodup ∧ (∀ z ∈ l, isN z = true) ∧
        H2 L = some (.lst (l.map V.str)) ∧ Dr H2 d g c (m + 40 * i) ∧ Mv d g H H2)
      ⟨[], none, none, none, none, none, rfl, rfl, .nil, (fun z hz => nomatch hz), upd_same, D.same (same_new hL), Mv.same (same_new hL)⟩ ?_ ?_
    · rintro i σ H2 hi ⟨l, v3, v4, v5, v6, v7, rfl, hl, nd, hN, hL2, D2, mv2⟩
      refine ⟨_, rfl, d, g, c, _, rfl, D2, by omega, fun z H3 hz D3 mv3 => ?_⟩
      have hL3 := mv3 _ _ nL.1 nL.2.1 hL2
      have hz8 := isN_len hz
      refine ⟨_, rfl, (by show 1 ≤ sizeLine; decide), fun p1 h1 => ?_⟩
      refine ⟨_, _, rfl, ⟨by decide, by decide, by decide, by decide⟩, fun p2 h2 => ?_⟩
      refine lc_range (lo := 10) (n := 30) (fun j H4 => H4 = upd (upd H3 p1 (.lst [.str z])) p2 (.lst (((List.range j).map (cand z)).map V.str))) rfl ?_ ?_
      · rintro j H4 hj rfl
        obtain ⟨e2, _, _⟩ := num_two j (List.mem_range.mpr hj)
        refine ⟨rfl, ?_⟩
        refine ⟨_, rfl, _, rfl, z, rfl, by rw [sizeLine_eq]; omega, _, rfl, _, rfl, num_log j (List.mem_range.mpr hj), _, _, rfl, rfl, ?_, ?_⟩
        · have q := cutS_length z none (some 6)
          have e3 : (numS j).length = 2 := by rw [len_tl]; exact e2
          show _ + (numS j).length ≤ sizeLine
          rw [e3, sizeLine_eq]; omega
        · refine ⟨_, upd_same, by rw [List.length_map, List.length_map, List.length_range, sizeLine_eq]; omega, ?_⟩
          rw [upd_upd, List.range_succ, List.map_append, List.map_append]; rfl
      · rintro H4 rfl
        have ne21 : p1 ≠ p2 := fun e => by rw [e, upd_same] at h2; cases h2
        refine ⟨p1, p2, _, _, rfl, rfl, by rw [upd_ne ne21]; exact upd_same, upd_same, by rw [List.length_map, List.length_map, List.length_range, sizeLine_eq]; show 1 + 30 ≤ 16777216; decide, fun p3 h3 => ?_⟩
        have ec : [V.str z] ++ ((List.range 30).map (cand z)).map V.str = (cands z).map V.str := rfl
        rw [ec]
        have S5 : Same H3 (upd (upd (upd H3 p1 (.lst [.str z])) p2 (.lst (((List.range 30).map (cand z)).map V.str))) p3 (.lst ((cands z).map V.str))) :=
          ((same_new h1).trans (same_new h2)).trans (same_new h3)
        generalize eH5 : upd (upd (upd H3 p1 (.lst [.str z])) p2 (.lst (((List.range 30).map (cand z)).map V.str))) p3 (.lst ((cands z).map V.str)) = H5 at S5
        have hp3 : H5 p3 = some (.lst ((cands z).map V.str)) := by rw [← eH5]; exact upd_same
        have hL5 := S5 _ _ hL3
        refine ⟨_, rfl, .inl ⟨rfl, _, .inl (.inl hL5)⟩, _, rfl, p3, rfl, ⟨_, .inl (.inl hp3)⟩, fun p4 h4 => ?_⟩
        refine lc_list (K := K) (a := p3) (xs := (cands z).map V.str) (fun j H6 => H6 = upd H5 p4 (.lst ((((cands z).take j).filter fun y => !decide (y ∈ l)).map V.str)))
          rfl (fun j H6 _ e => by rw [e]; exact .inl (.inl (same_new h4 _ _ hp3))) ?_ ?_
        · rintro j x H6 hx rfl
          obtain ⟨y, hy, rfl⟩ := get_strs hx
          refine ⟨rfl, ?_⟩
          refine ⟨_, rfl, _, rfl, L, _, rfl, .inl (.inl (.inl (same_new h4 _ _ hL5))), rfl, flat_strs _, ?_⟩
          rw [inV_strs]
          refine ⟨_, rfl, ite2 (fun e => ?_) fun e => ?_⟩
          · refine ⟨_, rfl, _, upd_same, small1000 ?_, ?_⟩
            · rw [List.length_map]
              have := fl_len (l := cands z) j (fun y => !decide (y ∈ l))
              have e31 : (cands z).length = 31 := by unfold cands; rw [List.length_cons, List.length_map, List.length_range]
              omega
            · rw [upd_upd, fl_take _ hy, if_pos (show (!decide (y ∈ l)) = true from e), List.map_append]; rfl
          · show upd H5 p4 _ = _
            rw [fl_take _ hy, if_neg (show ¬ (!decide (y ∈ l)) = true from e), List.append_nil]
        · rintro H6 rfl
          rw [List.length_map, List.take_length]
          have hne := cand_new (z := z) (l := l) (by omega)
          match ef : (cands z).filter (fun y => !decide (y ∈ l)) with
          | [] => exact absurd ef hne
          | y :: r =>
            have hy : y ∈ (cands z).filter (fun y => !decide (y ∈ l)) := by rw [ef]; exact List.mem_cons.mpr (.inl rfl)
            have hy2 := List.mem_filter.mp hy
            have hyl : y ∉ l := by simpa using hy2.2
            refine ⟨p4, _, _, .str y, rfl, rfl, .inl (.inl upd_same), L2.atI_nat (j := 0) rfl, ?_⟩
            have S6 : Same H3 (upd H5 p4 (.lst ((y :: r).map V.str))) := S5.trans (same_new h4)
            refine ⟨L, _, _, rfl, rfl, S6 _ _ hL3, by rw [List.length_map, sizeLine_eq]; omega, ?_⟩
            refine ⟨l ++ [y], _, _, _, _, _, rfl, by rw [List.length_append, hl]; rfl, ?_, ?_, ?_, ?_, ?_⟩
            · exact List.nodup_append.mpr ⟨nd, by simp, fun u hu v hv => by rw [List.mem_singleton.mp hv]; exact fun e => hyl (e ▸ hu)⟩
            · intro x hx
              rcases List.mem_append.mp hx with hx | hx
              · exact hN x hx
              · rw [List.mem_singleton.mp hx]; exact cands_ok hz y hy2.1
            · rw [upd_same, List.map_append]; rfl
            · exact ((D3.same S6).upd nL).mono (by omega)
            · exact ((mv2.trans mv3).trans (Mv.same S6)).put hL
    · rintro σ H2 ⟨l, v3, v4, v5, v6, v7, rfl, hl, nd, hN, hL2, D2, mv2⟩
      exact ⟨_, rfl, k L l H2 hL hl nd hN hL2 D2 mv2⟩
end
end Sn
namespace Sn
open PySem PySem.Spec PyProof.Rows L2 TL
/-- the kit's dict -/
def kitK (qn qw : Addr) (l : Int) : List (Key × V) := [(Sum.inr "names", .ref qn), (Sum.inr "words", .ref qw), (Sum.inr "left", .int l)]
theorem kit_names (qn qw : Addr) (l : Int) : valV (kitK qn qw l) (Sum.inr "names" : Key) = some (.ref qn) := by kernel_rfl
theorem kit_words (qn qw : Addr) (l : Int) : valV (kitK qn qw l) (Sum.inr "words" : Key) = some (.ref qw) := by kernel_rfl
theorem kit_left (qn qw : Addr) (l : Int) : valV (kitK qn qw l) (Sum.inr "left" : Key) = some (.int l) := by kernel_rfl
theorem kit_put (qn qw : Addr) (l x : Int) : putK (kitK qn qw l) (Sum.inr "left" : Key) (.int x) = kitK qn qw x := by kernel_rfl
theorem small3 (qn qw : Addr) (l : Int) : (kitK qn qw l).length ≤ 1000 := by show 3 ≤ 1000; decide
/-- where the kit stands, and its names and words -/
structure KA where
  kd : Addr
  qn : Addr
  qw : Addr
  ns : List Str
  ws : List Str
structure Kit (H : Hp) (d g : Addr) (k : KA) (l : Int) : Prop where
  di : H k.kd = some (.dK (kitK k.qn k.qw l))
  hn : H k.qn = some (.lst (k.ns.map V.str))
  hw : H k.qw = some (.lst (k.ws.map V.str))
  n0 : k.kd ≠ d
  n1 : k.qn ≠ g
  n2 : k.qw ≠ g
structure KOk (k : KA) : Prop where
  ln : 0 < k.ns.length ∧ k.ns.length ≤ 100
  lw : 0 < k.ws.length ∧ k.ws.length ≤ 100
  nd : k.ns.Nodup
  ns : ∀ n ∈ k.ns, isN n = true
  ws : ∀ w ∈ k.ws, isW w = true
section
variable {H H' : Hp} {d g c : Addr} {m : Nat} {k : KA} {l : Int}
theorem Kit.kg (h : Kit H d g k l) (D : Dr H d g c m) : k.kd ≠ g := by
  obtain ⟨ns, e⟩ := D.gr
  exact ne_of h.di e (by intro z; cases z)
theorem Kit.nd (h : Kit H d g k l) (D : Dr H d g c m) : k.qn ≠ d ∧ k.qw ≠ d := by
  obtain ⟨l', t, _, _, e⟩ := D.di
  exact ⟨ne_of h.hn e (by intro z; cases z), ne_of h.hw e (by intro z; cases z)⟩
theorem Kit.mv (h : Kit H d g k l) (D : Dr H d g c m) (v : Mv d g H H') : Kit H' d g k l :=
  ⟨v _ _ h.n0 (h.kg D) h.di, v _ _ (h.nd D).1 h.n1 h.hn, v _ _ (h.nd D).2 h.n2 h.hw, h.n0, h.n1, h.n2⟩
theorem Kit.same (h : Kit H d g k l) (s : Same H H') : Kit H' d g k l := ⟨s _ _ h.di, s _ _ h.hn, s _ _ h.hw, h.n0, h.n1, h.n2⟩
end
section
variable {P : Program} {w : World} {K : PySem.W.Frag} {mg : Str → Option Value} {base : Heap}
theorem oneTo4 {x : V} (h : x ∈ [V.int 1, V.int 1, V.int 1, V.int 2, V.int 2, V.int 3, V.int 4]) : ∃ n : Nat, x = .int n ∧ 1 ≤ n ∧ n ≤ 4 := by
  simp only [List.mem_cons, List.not_mem_nil, or_false] at h
  rcases h with rfl | rfl | rfl | rfl | rfl | rfl | rfl
  · exact ⟨1, rfl, by decide, by decide⟩
  · exact ⟨1, rfl, by decide, by decide⟩
  · exact ⟨1, rfl, by decide, by decide⟩
  · exact ⟨2, rfl, by decide, by decide⟩
  · exact ⟨2, rfl, by decide, by decide⟩
  · exact ⟨3, rfl, by decide, by decide⟩
  · exact ⟨4, rfl, by decide, by decide⟩
/-- a drawn expression -/
def spDExpr : Sp := fun vs H Q _ => ∃ (d g c : Addr) (m : Nat) (k : KA) (l : Int), vs = [.ref d, .ref k.kd] ∧ Dr H d g c m ∧ Kit H d g k l ∧ KOk k ∧ m + 9 ≤ 1000000000 ∧
  ∀ (e : PyData) (v : V) (H' : Hp), ExprOk e → Dr H' d g c (m + 9) → Mv d g H H' → St1 H' v e → Q v H'
theorem ok_dexpr (T : Txt K mg) : FnOk P w K mg base CX0 4 T.f_law_expr T.fd_law_expr ["_law_state", "_law_kit"] spDExpr := by
  have GT : FnOk P w K mg base CX0 2 T.f_law_take T.fd_law_take ["_law_state", "_law_size"] spTake := ok_take T
  have GP : FnOk P w K mg base CX0 3 T.f_law_pick T.fd_law_pick ["_law_state", "_law_some"] spPick := ok_pick T
  refine T.F_law_expr.ok sc_law_expr (fun vs H Q E h => ?_) (fun cdv A outer s H vs Q E hr h => ?_)
  · obtain ⟨d, g, c, m, k, l, rfl, _⟩ := h
    rfl
  · obtain ⟨d, g, c, m, k, l, rfl, D, KI, KO, hm, kk⟩ := h
    refine ⟨_, (pss_cons (ps_set (i := 2) sc_law_expr.nd rfl (Or.inl rfl) (pe_lst pa_nil))
      (pss_cons (ps_for PassesOwn.never rfl (pi_range1 (by rfl) T.z_range (pa_cons (pe_call (ok_pick T) (hr.mono (by decide)) rfl T.g_law_pick T.F_law_pick.kp T.b_law_pick .nil pass0 (pa_cons (pv 0) (pa_cons (pe_lst (pa_cons pe_int (pa_cons pe_int (pa_cons pe_int (pa_cons pe_int (pa_cons pe_int (pa_cons pe_int (pa_cons pe_int pa_nil)))))))) pa_nil))) pa_nil)) (pg_name (i := 3) sc_law_expr.nd rfl (Or.inl rfl))
        (pss_one (ps_if (pt_cmpR op_eq (pe_call (ok_take T) (hr.mono (by decide)) rfl T.g_law_take T.F_law_take.kp T.b_law_take .nil pass0 (pa_cons (pv 0) (pa_cons pe_int pa_nil))) pe_int (nomark _))
        (pss_one (ps_expr (pe_bm PySem.F.plainAttrs_list PySem.F.slot_list_append PySem.F.type_list_append mt_append (pv 2) (pa_cons (pe_tup (pa_cons pe_str (pa_cons (pe_call (ok_pick T) (hr.mono (by decide)) rfl T.g_law_pick T.F_law_pick.kp T.b_law_pick .nil pass0 (pa_cons (pv 0) (pa_cons (pe_dget (hu_of hr) (pv 1) pe_str (fun _ _ => rfl)) pa_nil))) pa_nil))) pa_nil))))
        (pss_one (ps_expr (pe_bm PySem.F.plainAttrs_list PySem.F.slot_list_append PySem.F.type_list_append mt_append (pv 2) (pa_cons (pe_tup (pa_cons pe_str (pa_cons (pe_call (ok_pick T) (hr.mono (by decide)) rfl T.g_law_pick T.F_law_pick.kp T.b_law_pick .nil pass0 (pa_cons (pv 0) (pa_cons (pe_dget (hu_of hr) (pv 1) pe_str (fun _ _ => rfl)) pa_nil))) pa_nil))) pa_nil)))))))
      (pss_one (ps_ret (pe_callTy call_tuple_of (by rfl) T.z_tuple (by decide +kernel) (pa_cons (pv 2) pa_nil)))))), ?_⟩
    refine ⟨(by show 0 ≤ sizeLine; decide), fun L hL => ?_⟩
    obtain ⟨nL1, nL2, nL3⟩ := dr_new D hL
    have s1 := same_new (o := .lst []) hL
    have D1 := D.same s1
    refine ⟨_, rfl, (by show 7 ≤ sizeLine; decide), fun q hq => ?_⟩
    obtain ⟨nq1, nq2, nq3⟩ := dr_new D1 hq
    have s2 := same_new (o := .lst [V.int 1, V.int 1, V.int 1, V.int 2, V.int 2, V.int 3, V.int 4]) hq
    refine ⟨d, g, c, m, D1.same s2, by omega, .inr ⟨q, _, rfl, upd_same, nq2, by show 0 < 7; decide, by show 7 ≤ 1000; decide, fun x H2 hx D2 mv2 => ?_⟩⟩
    obtain ⟨n, rfl, n1, n4⟩ := oneTo4 hx
    have M2 : Mv d g H H2 := (Mv.same (s1.trans s2)).trans mv2
    refine ⟨_, rfl, by omega, by omega, ?_⟩
    refine for_range (lo := 0) (n := n) (fun i σ H3 => ∃ (v3 : Option V) (vs : List V) (ps : List PyData), σ = [some (.ref d), some (.ref k.kd), some (.ref L), v3] ∧ H3 L = some (.lst vs) ∧ StA H3 vs ps ∧ ps.length = i ∧ (∀ p ∈ ps, PartOk p) ∧ Dr H3 d g c (m + 1 + 2 * i) ∧ Mv d g H H3)
      ⟨none, [], [], rfl, mv2 _ _ nL1 nL2 (s2 _ _ upd_same), .nil, rfl, (fun p hp => nomatch hp), D2, M2⟩ ?_ ?_
    · rintro i σ H3 hi ⟨v3, vs, ps, rfl, hL3, hvs, hl, hp, D3, M3⟩
      have lvs := hvs.at.len
      have K3 := KI.mv D M3
      refine ⟨_, rfl, d, g, c, _, 2, rfl, D3, by omega, by decide, by decide, fun r H4 r0 r2 D4 mv4 => ⟨rfl, _, rfl, ?_⟩⟩
      have K4 := K3.mv D3 mv4
      have hL4 := mv4 _ _ nL1 nL2 hL3
      have fin : ∀ (x : Str) (nm : Str) (H5 : Hp), PartOk (.tuple [.str nm, .str x]) → Dr H5 d g c (m + 1 + 2 * i + 1 + 1) → Mv d g H4 H5 → ∀ p, H5 p = none →
          ∃ (v3 : Option V) (vs' : List V) (ps' : List PyData), [some (V.ref d), some (.ref k.kd), some (.ref L), some (.int (0 + (i : Nat)))] = [some (.ref d), some (.ref k.kd), some (.ref L), v3] ∧ upd (upd H5 p (.tup [.str nm, .str x])) L (.lst (vs ++ [.ref p])) L = some (.lst vs') ∧ StA (upd (upd H5 p (.tup [.str nm, .str x])) L (.lst (vs ++ [.ref p]))) vs' ps' ∧ ps'.length = i + 1 ∧ (∀ p ∈ ps', PartOk p) ∧ Dr (upd (upd H5 p (.tup [.str nm, .str x])) L (.lst (vs ++ [.ref p]))) d g c (m + 1 + 2 * (i + 1)) ∧ Mv d g H (upd (upd H5 p (.tup [.str nm, .str x])) L (.lst (vs ++ [.ref p]))) := by
        intro x nm H5 hpo D5 mv5 p hp5
        have sp := same_new (o := .tup [.str nm, .str x]) hp5
        have hL5 := sp _ _ (mv5 _ _ nL1 nL2 hL4)
        have T5 := (MvT.mv D3 mv4).trans ((MvT.mv D4 mv5).trans (MvT.same sp))
        refine ⟨_, _, ps ++ [.tuple [.str nm, .str x]], rfl, upd_same, ?_, by rw [List.length_append, hl]; rfl, ?_, ((D5.same sp).upd ⟨nL1, nL2, nL3⟩).mono (by omega), ?_⟩
        · exact ((hvs.mv T5).app (.cons (St1.tup hp5 (.cons (.str _) (.cons (.str _) .nil))) .nil)).mv (MvT.put hL5)
        · intro y hy
          rcases List.mem_append.mp hy with h | h
          · exact hp y h
          · rw [List.mem_singleton.mp h]; exact hpo
        · exact Mv.put (((M3.trans mv4).trans mv5).trans (Mv.same sp)) hL
      by_cases hr0 : r = 0
      · refine iteDT (by rw [hr0]; rfl) ?_
        refine ⟨_, rfl, .inl ⟨rfl, _, SqL.at hL4⟩, _, rfl, _, rfl, k.kd, _, rfl, dget_of K4.di (kit_words _ _ _), ?_⟩
        refine ⟨d, g, c, _, D4, by omega, .inr ⟨k.qw, _, rfl, K4.hw, K4.n2, by rw [List.length_map]; exact KO.lw.1, by rw [List.length_map]; have := KO.lw.2; omega, fun x H5 hx D5 mv5 => ?_⟩⟩
        obtain ⟨z, hz, rfl⟩ := List.mem_map.mp hx
        refine ⟨(by show 2 ≤ sizeLine; decide), fun p hp5 => ?_⟩
        have sp := same_new (o := .tup [.str "text", .str z]) hp5
        refine ⟨L, _, _, rfl, rfl, sp _ _ (mv5 _ _ nL1 nL2 hL4), small1000 (by omega), ?_⟩
        exact fin z "text" H5 (.text (KO.ws z hz)) D5 mv5 p hp5
      · refine iteDF (decide_eq_false fun q => hr0 (by injection q)) ?_
        refine ⟨_, rfl, .inl ⟨rfl, _, SqL.at hL4⟩, _, rfl, _, rfl, k.kd, _, rfl, dget_of K4.di (kit_names _ _ _), ?_⟩
        refine ⟨d, g, c, _, D4, by omega, .inr ⟨k.qn, _, rfl, K4.hn, K4.n1, by rw [List.length_map]; exact KO.ln.1, by rw [List.length_map]; have := KO.ln.2; omega, fun x H5 hx D5 mv5 => ?_⟩⟩
        obtain ⟨z, hz, rfl⟩ := List.mem_map.mp hx
        refine ⟨(by show 2 ≤ sizeLine; decide), fun p hp5 => ?_⟩
        have sp := same_new (o := .tup [.str "name", .str z]) hp5
        refine ⟨L, _, _, rfl, rfl, sp _ _ (mv5 _ _ nL1 nL2 hL4), small1000 (by omega), ?_⟩
        exact fin z "name" H5 (.name (KO.ns z hz)) D5 mv5 p hp5
    · rintro σ H3 ⟨v3, vs, ps, rfl, hL3, hvs, hl, hp, D3, M3⟩
      refine ⟨_, rfl, L, vs, rfl, .inl ⟨SqL.at hL3, fun t ht => ?_⟩⟩
      exact kk _ _ _ ⟨ps, rfl, by omega, by omega, hp⟩ ((D3.same (same_new ht)).mono (by omega)) (M3.trans (Mv.same (same_new ht))) (St1.tup ht hvs)
/-- a drawn target -/
def spDTgt : Sp := fun vs H Q _ => ∃ (d g c : Addr) (m : Nat) (k : KA) (l : Int), vs = [.ref d, .ref k.kd] ∧ Dr H d g c m ∧ Kit H d g k l ∧ KOk k ∧ m + 11 ≤ 1000000000 ∧
  ∀ (e : PyData) (v : V) (H' : Hp), TgtOk e → Dr H' d g c (m + 11) → Mv d g H H' → St1 H' v e → Q v H'
theorem ok_dtarget (T : Txt K mg) : FnOk P w K mg base CX0 5 T.f_law_target T.fd_law_target ["_law_state", "_law_kit"] spDTgt := by
  have GT : FnOk P w K mg base CX0 2 T.f_law_take T.fd_law_take ["_law_state", "_law_size"] spTake := ok_take T
  have GP : FnOk P w K mg base CX0 3 T.f_law_pick T.fd_law_pick ["_law_state", "_law_some"] spPick := ok_pick T
  have GE : FnOk P w K mg base CX0 4 T.f_law_expr T.fd_law_expr ["_law_state", "_law_kit"] spDExpr := ok_dexpr T
  refine T.F_law_target.ok sc_law_target (fun vs H Q E h => ?_) (fun cdv A outer s H vs Q E hr h => ?_)
  · obtain ⟨d, g, c, m, k, l, rfl, _⟩ := h
    rfl
  · obtain ⟨d, g, c, m, k, l, rfl, D, KI, KO, hm, kk⟩ := h
    refine ⟨_, (pss_cons (ps_set (i := 2) sc_law_target.nd rfl (Or.inl rfl) (pe_call (ok_take T) (hr.mono (by decide)) rfl T.g_law_take T.F_law_take.kp T.b_law_take .nil pass0 (pa_cons (pv 0) (pa_cons pe_int pa_nil))))
      (pss_cons (ps_if (pt_cmpR op_lt (pv 2) pe_int (nomark _))
        (pss_one (ps_ret (pe_tup (pa_cons pe_str (pa_cons (pe_call (ok_pick T) (hr.mono (by decide)) rfl T.g_law_pick T.F_law_pick.kp T.b_law_pick .nil pass0 (pa_cons (pv 0) (pa_cons (pe_dget (hu_of hr) (pv 1) pe_str (fun _ _ => rfl)) pa_nil))) pa_nil)))))
        pss_nil)
      (pss_cons (ps_if (pt_cmpR op_eq (pv 2) pe_int (nomark _))
        (pss_one (ps_ret (pe_tup (pa_cons pe_str (pa_cons (pe_call (ok_dexpr T) (hr.mono (by decide)) rfl T.g_law_expr T.F_law_expr.kp T.b_law_expr .nil pass0 (pa_cons (pv 0) (pa_cons (pv 1) pa_nil))) pa_nil)))))
        pss_nil)
      (pss_one (ps_ret (pe_tup (pa_cons pe_str (pa_cons (pe_call (ok_pick T) (hr.mono (by decide)) rfl T.g_law_pick T.F_law_pick.kp T.b_law_pick .nil pass0 (pa_cons (pv 0) (pa_cons (pe_dget (hu_of hr) (pv 1) pe_str (fun _ _ => rfl)) pa_nil))) (pa_cons (pe_call (ok_dexpr T) (hr.mono (by decide)) rfl T.g_law_expr T.F_law_expr.kp T.b_law_expr .nil pass0 (pa_cons (pv 0) (pa_cons (pv 1) pa_nil))) pa_nil))))))))), ?_⟩
    refine ⟨_, rfl, d, g, c, m, 4, rfl, D, by omega, by decide, by decide, fun way H1 w0 w4 D1 mv1 => ?_⟩
    have K1 := KI.mv D mv1
    have lnm : 0 < (k.ns.map V.str).length ∧ (k.ns.map V.str).length ≤ 1000 := by rw [List.length_map]; have := KO.ln; omega
    refine if_tr (TrT.test (Tr.opB (Tr.var rfl (.int way)) Tr.int)) (fun _ H2 s2 => ?_) (fun _ H2 s2 => ?_)
    · refine ⟨_, rfl, _, rfl, k.kd, _, rfl, dget_of (K1.same s2).di (kit_names _ _ _), ?_⟩
      refine ⟨d, g, c, _, D1.same s2, by omega, .inr ⟨k.qn, _, rfl, (K1.same s2).hn, K1.n1, lnm.1, lnm.2, fun x H3 hx D3 mv3 => ?_⟩⟩
      obtain ⟨z, hz, rfl⟩ := List.mem_map.mp hx
      refine ⟨(by show 2 ≤ sizeLine; decide), fun p hp => ?_⟩
      exact kk _ _ _ (.name (KO.ns z hz)) ((D3.same (same_new hp)).mono (by omega)) (((mv1.trans (Mv.same s2)).trans mv3).trans (Mv.same (same_new hp))) (St1.tup hp (.cons (.str _) (.cons (.str _) .nil)))
    refine if_tr (TrT.test (Tr.eqI (Tr.var rfl (.int way)) Tr.int)) (fun _ H3 s3 => ?_) (fun _ H3 s3 => ?_)
    · have s3 := s2.trans s3
      refine ⟨_, rfl, _, rfl, d, g, c, _, k, l, rfl, D1.same s3, K1.same s3, KO, by omega, fun e v H4 he D4 mv4 hv => ?_⟩
      refine ⟨(by show 2 ≤ sizeLine; decide), fun p hp => ?_⟩
      exact kk _ _ _ (.built he) ((D4.same (same_new hp)).mono (by omega)) (((mv1.trans (Mv.same s3)).trans mv4).trans (Mv.same (same_new hp))) (St1.tup hp (.cons (.str _) (.cons hv .nil)))
    · have s3 := s2.trans s3
      refine ⟨_, rfl, _, rfl, k.kd, _, rfl, dget_of (K1.same s3).di (kit_names _ _ _), ?_⟩
      refine ⟨d, g, c, _, D1.same s3, by omega, .inr ⟨k.qn, _, rfl, (K1.same s3).hn, K1.n1, lnm.1, lnm.2, fun x H4 hx D4 mv4 => ?_⟩⟩
      obtain ⟨z, hz, rfl⟩ := List.mem_map.mp hx
      refine ⟨_, rfl, _, rfl, d, g, c, _, k, l, rfl, D4, (K1.same s3).mv (D1.same s3) mv4, KO, by omega, fun e v H5 he D5 mv5 hv => ?_⟩
      refine ⟨(by show 3 ≤ sizeLine; decide), fun p hp => ?_⟩
      exact kk _ _ _ (.table (KO.ns z hz) he) ((D5.same (same_new hp)).mono (by omega)) ((((mv1.trans (Mv.same s3)).trans mv4).trans mv5).trans (Mv.same (same_new hp))) (St1.tup hp (.cons (.str _) (.cons (.str _) (.cons hv .nil))))
end
end Sn
namespace Sn
open PySem PySem.Spec PyProof.Rows L2 TL
/-- all that was tracked stands, but the state and the kit -/
def Mv3 (d g kd : Addr) (H H' : Hp) : Prop := ∀ b o, b ≠ d → b ≠ g → b ≠ kd → H b = some o → H' b = some o
section
variable {H H1 H2 H' : Hp} {d g c kd : Addr} {m : Nat} {k : KA} {l : Int}
theorem Mv3.of (v : Mv d g H H') : Mv3 d g kd H H' := fun b o h1 h2 _ e => v b o h1 h2 e
theorem Mv3.same (s : Same H H') : Mv3 d g kd H H' := fun b o _ _ _ e => s b o e
theorem Mv3.trans (a : Mv3 d g kd H H1) (b : Mv3 d g kd H1 H2) : Mv3 d g kd H H2 := fun x o h1 h2 h3 e => b x o h1 h2 h3 (a x o h1 h2 h3 e)
theorem Mv3.refl : Mv3 d g kd H H := fun _ _ _ _ _ e => e
theorem Mv3.kit {o : HO} : Mv3 d g kd H (upd H kd o) := fun b x _ _ h3 e => by rw [upd_ne h3]; exact e
theorem Mv3.put {L : Addr} {o : HO} (v : Mv3 d g kd H H2) (h : H L = none) : Mv3 d g kd H (upd H2 L o) := fun b x h1 h2 h3 e => by
  rw [upd_ne (ne_of_none e h)]
  exact v _ _ h1 h2 h3 e
theorem MvT.mv3 (D : Dr H d g c m) (KI : Kit H d g k l) (v : Mv3 d g k.kd H H') : MvT H H' := fun b xs e => by
  obtain ⟨l1, t1, _, _, h2⟩ := D.di
  obtain ⟨gs, h3⟩ := D.gr
  exact v _ _ (ne_of e h2 (by intro z; cases z)) (ne_of e h3 (by intro z; cases z)) (ne_of e KI.di (by intro z; cases z)) e
/-- the kit's number is set -/
theorem Kit.put (KI : Kit H d g k l) (x : Int) : Kit (upd H k.kd (.dK (kitK k.qn k.qw x))) d g k x :=
  ⟨upd_same, by rw [upd_ne (ne_of KI.hn KI.di (by intro z; cases z))]; exact KI.hn, by rw [upd_ne (ne_of KI.hw KI.di (by intro z; cases z))]; exact KI.hw, KI.n0, KI.n1, KI.n2⟩
theorem Dr.kit (D : Dr H d g c m) (KI : Kit H d g k l) (x : Int) : Dr (L2.upd H k.kd (.dK (kitK k.qn k.qw x))) d g c m := by
  obtain ⟨cs, h⟩ := D.ce
  exact D.upd ⟨KI.n0, KI.kg D, ne_of KI.di h (by intro z; cases z)⟩
end
section
variable {P : Program} {w : World} {K : PySem.W.Frag} {mg : Str → Option Value} {base : Heap}
theorem fnOk_absurd {CX : CXT} {k : Nat} {f : Addr} {fd : FuncData} {ps : List Str} {sp : Sp} (h : ∀ vs H Q E, ¬ sp vs H Q E) : FnOk P w K mg base CX k f fd ps sp :=
  ⟨fun vs H Q E q => absurd q (h _ _ _ _), fun A fr s H ar us xs Q E _ _ _ _ e => absurd e (h _ _ _ _)⟩
/-- a drawn statement at a level -/
def spDRow (lv : Nat) : Sp := fun vs H Q _ => ∃ (d g c : Addr) (m : Nat) (k : KA) (L : Int), vs = [.ref d, .ref k.kd, .int lv] ∧ 1 ≤ lv ∧ lv ≤ 4 ∧ Dr H d g c m ∧ Kit H d g k L ∧ KOk k ∧ m ≤ 900000000 + 10000 * lv + 5000 ∧ L ≤ 6 ∧ -1000 ≤ L ∧
  ∀ (r : PyData) (v : V) (H' : Hp) (n : Nat), StmtF (BlockOk (4 - lv)) r → 1 ≤ n → (L ≤ 2 → n = 1) → (1 ≤ L → -(4 - (lv : Int)) ≤ L - n) → (stmtL (blockL (4 - lv) (lv + 1)) lv r).length ≤ 2 * n → Dr H' d g c (m + (100 * n - 10)) → Kit H' d g k (L - n) → Mv3 d g k.kd H H' → St1 H' v r → Q v H'
/-- a drawn block at a level -/
def spDBlock (lv : Nat) : Sp := fun vs H Q _ => ∃ (d g c : Addr) (m : Nat) (k : KA) (L : Int), vs = [.ref d, .ref k.kd, .int lv] ∧ 1 ≤ lv ∧ lv ≤ 4 ∧ Dr H d g c m ∧ Kit H d g k L ∧ KOk k ∧ m ≤ 900000000 + 10000 * lv ∧ L ≤ 6 ∧ -900 ≤ L ∧
  ∀ (rs : List PyData) (v : V) (H' : Hp) (n : Nat), rs ≠ [] → rs.length ≤ 4 → (∀ r ∈ rs, StmtF (BlockOk (4 - lv)) r) → 1 ≤ n → (L ≤ 0 → n = 1) → (1 ≤ L → -(4 - (lv : Int)) ≤ L - n) → (blockL (4 - lv + 1) lv rs).length ≤ 2 * n → Dr H' d g c (m + 100 * n) → Kit H' d g k (L - n) → Mv3 d g k.kd H H' → St1 H' v (.tuple rs) → Q v H'
theorem upTo3 {x : V} (h : x ∈ [V.int 0, V.int 0, V.int 1, V.int 1, V.int 2, V.int 3]) : ∃ n : Nat, x = .int n ∧ n ≤ 3 := by
  simp only [List.mem_cons, List.not_mem_nil, or_false] at h
  rcases h with rfl | rfl | rfl | rfl | rfl | rfl
  · exact ⟨0, rfl, by decide⟩
  · exact ⟨0, rfl, by decide⟩
  · exact ⟨1, rfl, by decide⟩
  · exact ⟨1, rfl, by decide⟩
  · exact ⟨2, rfl, by decide⟩
  · exact ⟨3, rfl, by decide⟩
theorem ok_drow (T : Txt K mg) {n lv : Nat} (hn : 5 ≤ n) (GB : FnOk P w K mg base CX0 n T.f_law_block T.fd_law_block ["_law_state", "_law_kit", "_law_level"] (spDBlock (lv + 1))) : FnOk P w K mg base CX0 (n + 1) T.f_law_row T.fd_law_row ["_law_state", "_law_kit", "_law_level"] (spDRow lv) := by
  have GT : FnOk P w K mg base CX0 2 T.f_law_take T.fd_law_take ["_law_state", "_law_size"] spTake := ok_take T
  have GP : FnOk P w K mg base CX0 3 T.f_law_pick T.fd_law_pick ["_law_state", "_law_some"] spPick := ok_pick T
  have GE : FnOk P w K mg base CX0 4 T.f_law_expr T.fd_law_expr ["_law_state", "_law_kit"] spDExpr := ok_dexpr T
  have GG : FnOk P w K mg base CX0 5 T.f_law_target T.fd_law_target ["_law_state", "_law_kit"] spDTgt := ok_dtarget T
  refine T.F_law_row.ok sc_law_row (fun vs H Q E h => ?_) (fun cdv A outer s H vs Q E hr h => ?_)
  · obtain ⟨d, g, c, m, k, L, rfl, _⟩ := h
    rfl
  · obtain ⟨d, g, c, m, k, L, rfl, l1, l4, D, KI, KO, hm, hL, hL2, kk⟩ := h
    refine ⟨_, (pss_cons (ps_dput (hu_of hr) (pv 1) pe_str (pe_op op_sub (pe_dget (hu_of hr) (pv 1) pe_str (fun _ _ => rfl)) pe_int) rfl)
      (C8.pss_cut (ps_set (i := 3) sc_law_row.nd rfl (Or.inl rfl) (pe_call (ok_take T) (hr.mono (by omega)) rfl T.g_law_take T.F_law_take.kp T.b_law_take .nil pass0 (pa_cons (pv 0) (pa_cons (pe_ifExp (PW.pt (pw_and (pt_cmpR op_lt (pv 2) pe_int (nomark _)) (pw_and1 (pt_cmpR op_gt (pe_dget (hu_of hr) (pv 1) pe_str (fun _ _ => rfl)) pe_int (nomark _))))) pe_int pe_int) pa_nil))))
      (pss_cons (ps_par (i := 4) (j := 5) (by rfl) sc_law_row.nd rfl rfl (by decide) rfl rfl (pa_cons (pe_call (ok_pick T) (hr.mono (by omega)) rfl T.g_law_pick T.F_law_pick.kp T.b_law_pick .nil pass0 (pa_cons (pv 0) (pa_cons (pe_dget (hu_of hr) (pv 1) pe_str (fun _ _ => rfl)) pa_nil))) (pa_cons (pe_call (ok_pick T) (hr.mono (by omega)) rfl T.g_law_pick T.F_law_pick.kp T.b_law_pick .nil pass0 (pa_cons (pv 0) (pa_cons (pe_dget (hu_of hr) (pv 1) pe_str (fun _ _ => rfl)) pa_nil))) pa_nil)) (by rfl))
      (pss_cons (ps_if (pt_cmpR op_eq (pv 3) pe_int (nomark _))
        (pss_one (ps_ret (pe_tup (pa_cons pe_str (pa_cons (pv 4) (pa_cons (pe_call (ok_dexpr T) (hr.mono (by omega)) rfl T.g_law_expr T.F_law_expr.kp T.b_law_expr .nil pass0 (pa_cons (pv 0) (pa_cons (pv 1) pa_nil))) pa_nil))))))
        pss_nil)
      (pss_cons (ps_if (pt_cmpR op_eq (pv 3) pe_int (nomark _))
        (pss_one (ps_ret (pe_tup (pa_cons pe_str (pa_cons (pv 4) pa_nil)))))
        pss_nil)
      (pss_cons (ps_if (pt_cmpR op_lt (pv 3) pe_int (nomark _))
        (pss_cons (ps_set (i := 6) sc_law_row.nd rfl (Or.inl rfl) (pe_call (ok_dtarget T) (hr.mono (by omega)) rfl T.g_law_target T.F_law_target.kp T.b_law_target .nil pass0 (pa_cons (pv 0) (pa_cons (pv 1) pa_nil))))
      (pss_cons (ps_setLc (i := 7) (own := [("_law_turn", 12)]) (g := gName 12) rfl sc_law_row.nd rfl rfl (sw_true rfl rfl rfl (by decide +kernel)) (pi_range1 (by rfl) T.z_range (pa_cons (pe_call (ok_pick T) (hr.mono (by omega)) rfl T.g_law_pick T.F_law_pick.kp T.b_law_pick .nil pass0 (pa_cons (pv 0) (pa_cons (pe_lst (pa_cons pe_int (pa_cons pe_int (pa_cons pe_int (pa_cons pe_int (pa_cons pe_int (pa_cons pe_int pa_nil))))))) pa_nil))) pa_nil)) (blkOk_by (own := [("_law_turn", 12)]) (N := n_law_row) (sc := defScope s_law_row) (by decide +kernel)) (fun _ _ _ _ _ => (pg_name (i := 12) sc_law_row.nd rfl (Or.inl rfl))) (fun _ _ _ _ _ => pts_nil) (fun _ _ _ _ _ => (pe_call (ok_dexpr T) (hr.mono (by omega)) rfl T.g_law_expr T.F_law_expr.kp T.b_law_expr .nil pass0 (pa_cons (pv 0) (pa_cons (pv 1) pa_nil)))))
      (pss_one (ps_ret (pe_tup (pa_cons pe_str (pa_cons (pe_ix (ix_listK (K := K)) (pe_lst (pa_cons pe_non (pa_cons (pv 4) pa_nil))) (pe_op op_sub (pv 3) pe_int) (fun _ _ => rfl)) (pa_cons (pv 6) (pa_cons (pe_callTy call_tuple_of (by rfl) T.z_tuple (by decide +kernel) (pa_cons (pv 7) pa_nil)) pa_nil)))))))))
        pss_nil)
      (pss_cons (ps_if (pt_cmpR op_lt (pv 3) pe_int (nomark _))
        (pss_one (ps_ret (pe_ix (ix_listK (K := K)) (pe_lst (pa_cons (pe_tup (pa_cons pe_str (pa_cons (pe_call (ok_dexpr T) (hr.mono (by omega)) rfl T.g_law_expr T.F_law_expr.kp T.b_law_expr .nil pass0 (pa_cons (pv 0) (pa_cons (pv 1) pa_nil))) pa_nil))) (pa_cons (pe_tup (pa_cons pe_str pa_nil)) pa_nil))) (pe_op op_sub (pv 3) pe_int) (fun _ _ => rfl))))
        pss_nil)
      (pss_cons (ps_if (pt_cmpR op_eq (pv 3) pe_int (nomark _))
        (pss_one (ps_ret (pe_tup (pa_cons pe_str (pa_cons (pv 4) (pa_cons (pv 5) (pa_cons (pe_call GB hr rfl T.g_law_block T.F_law_block.kp T.b_law_block .nil pass0 (pa_cons (pv 0) (pa_cons (pv 1) (pa_cons (pe_op op_add (pv 2) pe_int) pa_nil)))) pa_nil)))))))
        pss_nil)
      (pss_cons (ps_if (pt_cmpR op_eq (pv 3) pe_int (nomark _))
        (pss_cons (ps_set (i := 8) sc_law_row.nd rfl (Or.inl rfl) (pe_call GB hr rfl T.g_law_block T.F_law_block.kp T.b_law_block .nil pass0 (pa_cons (pv 0) (pa_cons (pv 1) (pa_cons (pe_op op_add (pv 2) pe_int) pa_nil)))))
      (pss_one (ps_ret (pe_tup (pa_cons pe_str (pa_cons (pv 8) (pa_cons (pe_call GB hr rfl T.g_law_block T.F_law_block.kp T.b_law_block .nil pass0 (pa_cons (pv 0) (pa_cons (pv 1) (pa_cons (pe_op op_add (pv 2) pe_int) pa_nil)))) pa_nil)))))))
        pss_nil)
      (pss_cons (ps_par (i := 9) (j := 10) (by rfl) sc_law_row.nd rfl rfl (by decide) rfl rfl (pa_cons (pe_cmpR op_eq (pe_call (ok_take T) (hr.mono (by omega)) rfl T.g_law_take T.F_law_take.kp T.b_law_take .nil pass0 (pa_cons (pv 0) (pa_cons pe_int pa_nil))) pe_int (nomark _)) (pa_cons (pe_call (ok_dexpr T) (hr.mono (by omega)) rfl T.g_law_expr T.F_law_expr.kp T.b_law_expr .nil pass0 (pa_cons (pv 0) (pa_cons (pv 1) pa_nil))) pa_nil)) (by rfl))
      (pss_cons (ps_set (i := 8) sc_law_row.nd rfl (Or.inl rfl) (pe_call GB hr rfl T.g_law_block T.F_law_block.kp T.b_law_block .nil pass0 (pa_cons (pv 0) (pa_cons (pv 1) (pa_cons (pe_op op_add (pv 2) pe_int) pa_nil)))))
      (C8.pss_cut (ps_set (i := 11) sc_law_row.nd rfl (Or.inl rfl) (pe_ifExp (pt_val (pv 9)) (pe_call GB hr rfl T.g_law_block T.F_law_block.kp T.b_law_block .nil pass0 (pa_cons (pv 0) (pa_cons (pv 1) (pa_cons (pe_op op_add (pv 2) pe_int) pa_nil)))) (pe_tup pa_nil)))
      (pss_one (ps_ret (pe_ifExp (pt_cmpR op_eq (pv 3) pe_int (nomark _)) (pe_tup (pa_cons pe_str (pa_cons (pv 10) (pa_cons (pv 5) (pa_cons (pv 8) (pa_cons (pv 11) pa_nil)))))) (pe_tup (pa_cons pe_str (pa_cons (pv 10) (pa_cons (pv 8) (pa_cons (pv 11) pa_nil)))))))))))))))))))), ?_⟩
    refine ⟨_, rfl, k.kd, _, rfl, dget_of KI.di (kit_left _ _ _), _, _, rfl, rfl, _, rfl, k.kd, _, rfl, dput_of KI.di (small3 _ _ _) (kit_put _ _ _ _), ?_⟩
    have K1 := KI.put (L - 1)
    have D1 := D.kit KI (L - 1)
    have M1 : Mv3 d g k.kd H (upd H k.kd (.dK (kitK k.qn k.qw (L - 1)))) := Mv3.kit
    generalize upd H k.kd (.dK (kitK k.qn k.qw (L - 1))) = H1 at K1 D1 M1
    refine ⟨fun σ H2 => ∃ way : Int, σ = [some (.ref d), some (.ref k.kd), some (.int lv), some (.int way), none, none, none, none, none, none, none, none, none] ∧ 0 ≤ way ∧ way < 10 ∧ (6 ≤ way → lv < 4 ∧ 3 ≤ L) ∧ Dr H2 d g c (m + 1) ∧ Kit H2 d g k (L - 1) ∧ Mv3 d g k.kd H H2, ?_, ?_⟩
    · refine ⟨_, rfl, _, rfl, _, _, rfl, rfl, _, rfl, ?_⟩
      by_cases h4 : lv < 4
      · refine iteDT (decide_eq_true (by omega)) ⟨_, rfl, k.kd, _, rfl, dget_of K1.di (kit_left _ _ _), _, _, rfl, rfl, _, rfl, ?_⟩
        by_cases h3 : 3 ≤ L
        · refine iteDT (decide_eq_true (by omega)) ⟨d, g, c, m, 10, rfl, D1, by omega, by decide, by decide, fun way H2 w0 w1 D2 mv2 => ?_⟩
          exact ⟨way, rfl, w0, w1, fun _ => ⟨h4, h3⟩, D2, K1.mv D1 mv2, M1.trans (.of mv2)⟩
        · refine iteDF (decide_eq_false (by omega)) ⟨d, g, c, m, 6, rfl, D1, by omega, by decide, by decide, fun way H2 w0 w1 D2 mv2 => ?_⟩
          exact ⟨way, rfl, w0, by omega, fun q => by omega, D2, K1.mv D1 mv2, M1.trans (.of mv2)⟩
      · refine iteDF (decide_eq_false (by omega)) (iteF ⟨d, g, c, m, 6, rfl, D1, by omega, by decide, by decide, fun way H2 w0 w1 D2 mv2 => ?_⟩)
        exact ⟨way, rfl, w0, by omega, fun q => by omega, D2, K1.mv D1 mv2, M1.trans (.of mv2)⟩
    · rintro σ H2 ⟨way, rfl, w0, w10, w6, D2, K2, M2⟩
      have lnm : 0 < (k.ns.map V.str).length ∧ (k.ns.map V.str).length ≤ 1000 := by rw [List.length_map]; have := KO.ln; omega
      have lwm : 0 < (k.ws.map V.str).length ∧ (k.ws.map V.str).length ≤ 1000 := by rw [List.length_map]; have := KO.lw; omega
      refine ⟨_, rfl, _, rfl, k.kd, _, rfl, dget_of K2.di (kit_names _ _ _), ?_⟩
      refine ⟨d, g, c, _, D2, by omega, .inr ⟨k.qn, _, rfl, K2.hn, K2.n1, lnm.1, lnm.2, fun x H3 hx D3 mv3 => ?_⟩⟩
      obtain ⟨nm, hnm, rfl⟩ := List.mem_map.mp hx
      have hnm := KO.ns nm hnm
      have K3 := K2.mv D2 mv3
      refine ⟨_, rfl, _, rfl, k.kd, _, rfl, dget_of K3.di (kit_words _ _ _), ?_⟩
      refine ⟨d, g, c, _, D3, by omega, .inr ⟨k.qw, _, rfl, K3.hw, K3.n2, lwm.1, lwm.2, fun x H4 hx D4 mv4 => ?_⟩⟩
      obtain ⟨wd, hwd, rfl⟩ := List.mem_map.mp hx
      have hwd := KO.ws wd hwd
      have K4 := K3.mv D3 mv4
      have M4 : Mv3 d g k.kd H H4 := M2.trans ((Mv3.of mv3).trans (.of mv4))
      refine ⟨_, _, rfl, ?_⟩
      have fin1 : ∀ (r : PyData) (v : V) (H' : Hp) (m' : Nat), StmtF (BlockOk (4 - lv)) r → underL (blockL (4 - lv) (lv + 1)) lv r = [] → Dr H' d g c m' → m' ≤ m + 90 → Mv d g H4 H' → St1 H' v r → Q v H' := by
        intro r v H' m' hs hu D' hm' mv' hv
        refine kk r v H' 1 hs (by decide) (fun _ => rfl) (fun _ => by omega) ?_ (D'.mono (by omega)) (K4.mv D4 mv') (M4.trans (.of mv')) hv
        unfold stmtL
        rw [hu]
        simp
      refine if_tr (TrT.test (Tr.eqI (Tr.var rfl (.int way)) Tr.int)) (fun _ H5 s5 => ?_) (fun ew0 H5 s5 => ?_)
      · refine ⟨_, rfl, _, rfl, _, rfl, d, g, c, _, k, _, rfl, D4.same s5, K4.same s5, KO, by omega, fun e v H6 he D6 mv6 hv => ⟨(by show 3 ≤ sizeLine; decide), fun p hp => ?_⟩⟩
        exact fin1 _ _ _ _ (.let_ hnm he) rfl (D6.same (same_new hp)) (by omega) (((Mv.same s5).trans mv6).trans (Mv.same (same_new hp))) (St1.tup hp (.cons (.str _) (.cons (.str _) (.cons hv .nil))))
      refine if_tr (TrT.test (Tr.eqI (Tr.var rfl (.int way)) Tr.int)) (fun _ H6 s6 => ?_) (fun ew1 H6 s6 => ?_)
      · refine ret_tr (Tr.tup (.cons Tr.str (.cons (Tr.var rfl (.str _)) .nil))) fun v H7 s7 hv => ?_
        exact fin1 _ _ _ _ (.ask hnm) rfl (D4.same ((s5.trans s6).trans s7)) (by omega) (Mv.same ((s5.trans s6).trans s7)) hv
      have w2 : 2 ≤ way := by
        have a1 : way ≠ 0 := fun q => by rw [q] at ew0; cases ew0
        have a2 : way ≠ 1 := fun q => by rw [q] at ew1; cases ew1
        omega
      have s6 := s5.trans s6
      have D6 := D4.same s6
      have K6 := K4.same s6
      refine if_tr (TrT.test (Tr.opB (Tr.var rfl (.int way)) Tr.int)) (fun ew4 H7 s7 => ?_) (fun ew4 H7 s7 => ?_)
      · have w4 : way < 4 := of_decide_eq_true ew4
        have D7 := D6.same s7
        have K7 := K6.same s7
        refine ⟨_, rfl, _, rfl, d, g, c, _, k, _, rfl, D7, K7, KO, by omega, fun t vt H8 ht D8 mv8 hvt => ?_⟩
        have K8 := K7.mv D7 mv8
        refine ⟨_, rfl, (by show 6 ≤ sizeLine; decide), fun q hq => ?_⟩
        obtain ⟨nq1, nq2, nq3⟩ := dr_new D8 hq
        have sq := same_new (o := .lst [V.int 0, V.int 0, V.int 1, V.int 1, V.int 2, V.int 3]) hq
        refine ⟨d, g, c, _, D8.same sq, by omega, .inr ⟨q, _, rfl, upd_same, nq2, by show 0 < 6; decide, by show 6 ≤ 1000; decide, fun x H9 hx D9 mv9 => ?_⟩⟩
        obtain ⟨ng, rfl, ng3⟩ := upTo3 hx
        have K9 := (K8.same sq).mv (D8.same sq) mv9
        have hvt9 := hvt.mv ((MvT.same sq).trans (MvT.mv (D8.same sq) mv9))
        have M9 : Mv d g H4 H9 := (Mv.same s6).trans ((Mv.same s7).trans (mv8.trans ((Mv.same sq).trans mv9)))
        refine ⟨_, rfl, by omega, by omega, fun G hG => ?_⟩
        obtain ⟨nG1, nG2, nG3⟩ := dr_new D9 hG
        refine lc_range (lo := 0) (n := ng) (fun i Ha => ∃ (vs : List V) (es : List PyData), Ha G = some (.lst vs) ∧ StA Ha vs es ∧ es.length = i ∧ (∀ e ∈ es, ExprOk e) ∧ Dr Ha d g c (m + 15 + 9 * i) ∧ Mv d g H9 Ha)
          ⟨[], [], upd_same, .nil, rfl, (fun e he => nomatch he), (D9.same (same_new hG)).mono (by omega), Mv.same (same_new hG)⟩ ?_ ?_
        · rintro i Ha hi ⟨vs, es, hGa, hvs, hl, hes, Da, Ma⟩
          refine ⟨rfl, ?_⟩
          have lvs := hvs.at.len
          refine ⟨_, rfl, _, rfl, d, g, c, _, k, _, rfl, Da, K9.mv D9 Ma, KO, by omega, fun e v Hb he Db mvb hv => ?_⟩
          have hGb := mvb _ _ nG1 nG2 hGa
          refine ⟨vs, hGb, small1000 (by omega), vs ++ [v], es ++ [e], upd_same, ?_, by rw [List.length_append, hl]; rfl, ?_, (Db.upd ⟨nG1, nG2, nG3⟩).mono (by omega), Mv.put (Ma.trans mvb) hG⟩
          · exact ((hvs.mv (MvT.mv Da mvb)).app (.cons hv .nil)).mv (MvT.put hGb)
          · intro y hy
            rcases List.mem_append.mp hy with h | h
            · exact hes y h
            · rw [List.mem_singleton.mp h]; exact he
        · rintro Ha ⟨vs, es, hGa, hvs, hl, hes, Da, Ma⟩
          have hvta := hvt9.mv (MvT.mv D9 Ma)
          have Mz := M9.trans Ma
          refine ⟨_, rfl, (by show 2 ≤ sizeLine; decide), fun q2 hq2 => ?_⟩
          have s2 := same_new (o := .lst [V.non, V.str nm]) hq2
          rcases (by omega : way = 2 ∨ way = 3) with rfl | rfl
          · refine ⟨_, rfl, _, _, rfl, rfl, q2, _, _, .non, rfl, rfl, SqL.at upd_same, by rw [show (2 : Int) - 2 = ((0 : Nat) : Int) from rfl]; exact atI_nat rfl, ?_⟩
            refine ⟨_, rfl, _, rfl, G, vs, rfl, .inl ⟨SqL.at (s2 _ _ hGa), fun t2 ht2 => ?_⟩⟩
            have s3 := s2.trans (same_new (o := .tup vs) ht2)
            refine ⟨(by show 4 ≤ sizeLine; decide), fun p hp => ?_⟩
            exact fin1 _ _ _ _ (.call0 ht ⟨es, rfl, by omega, hes⟩) rfl ((Da.same s3).same (same_new hp)) (by omega) (Mz.trans (Mv.same (s3.trans (same_new hp)))) (St1.tup hp (.cons (.str _) (.cons .non (.cons (hvta.mv (MvT.same s3)) (.cons (St1.tup ht2 (hvs.mv (MvT.same s2))) .nil)))))
          · refine ⟨_, rfl, _, _, rfl, rfl, q2, _, _, .str nm, rfl, rfl, SqL.at upd_same, by rw [show (3 : Int) - 2 = ((1 : Nat) : Int) from rfl]; exact atI_nat rfl, ?_⟩
            refine ⟨_, rfl, _, rfl, G, vs, rfl, .inl ⟨SqL.at (s2 _ _ hGa), fun t2 ht2 => ?_⟩⟩
            have s3 := s2.trans (same_new (o := .tup vs) ht2)
            refine ⟨(by show 4 ≤ sizeLine; decide), fun p hp => ?_⟩
            exact fin1 _ _ _ _ (.call1 hnm ht ⟨es, rfl, by omega, hes⟩) rfl ((Da.same s3).same (same_new hp)) (by omega) (Mz.trans (Mv.same (s3.trans (same_new hp)))) (St1.tup hp (.cons (.str _) (.cons (.str _) (.cons (hvta.mv (MvT.same s3)) (.cons (St1.tup ht2 (hvs.mv (MvT.same s2))) .nil)))))
      have w4 : 4 ≤ way := by have := of_decide_eq_false ew4; omega
      have s7 := s6.trans s7
      have D7 := D4.same s7
      have K7 := K4.same s7
      refine if_tr (TrT.test (Tr.opB (Tr.var rfl (.int way)) Tr.int)) (fun ew6 H8 s8 => ?_) (fun ew6 H8 s8 => ?_)
      · have w6' : way < 6 := of_decide_eq_true ew6
        refine ⟨_, rfl, _, rfl, d, g, c, _, k, _, rfl, D7.same s8, K7.same s8, KO, by omega, fun e v H9 he D9 mv9 hv => ?_⟩
        refine ⟨(by show 2 ≤ sizeLine; decide), fun p1 hp1 => ⟨(by show 1 ≤ sizeLine; decide), fun p2 hp2 => ⟨(by show 2 ≤ sizeLine; decide), fun q hq => ?_⟩⟩⟩
        have sa := same_new (o := .tup [V.str "return", v]) hp1
        have sb := same_new (o := .tup [V.str "fail"]) hp2
        have sc := same_new (o := .lst [V.ref p1, V.ref p2]) hq
        have Mz : Mv d g H4 _ := (Mv.same s7).trans ((Mv.same s8).trans (mv9.trans (Mv.same (sa.trans (sb.trans sc)))))
        have Dz := D9.same (sa.trans (sb.trans sc))
        rcases (by omega : way = 4 ∨ way = 5) with rfl | rfl
        · refine ⟨_, rfl, _, _, rfl, rfl, q, _, _, .ref p1, rfl, rfl, SqL.at upd_same, by rw [show (4 : Int) - 4 = ((0 : Nat) : Int) from rfl]; exact atI_nat rfl, ?_⟩
          exact fin1 _ _ _ _ (.ret he) rfl Dz (by omega) Mz ((St1.tup hp1 (.cons (.str _) (.cons hv .nil))).mv (MvT.same (sb.trans sc)))
        · refine ⟨_, rfl, _, _, rfl, rfl, q, _, _, .ref p2, rfl, rfl, SqL.at upd_same, by rw [show (5 : Int) - 4 = ((1 : Nat) : Int) from rfl]; exact atI_nat rfl, ?_⟩
          exact fin1 _ _ _ _ .fail rfl Dz (by omega) Mz ((St1.tup hp2 (.cons (.str _) .nil)).mv (MvT.same sc))
      have w6' : 6 ≤ way := by have := of_decide_eq_false ew6; omega
      obtain ⟨h4, h3⟩ := w6 w6'
      have s8 := s7.trans s8
      have D8 := D4.same s8
      have K8 := K4.same s8
      have M8 : Mv3 d g k.kd H H8 := M4.trans (.same s8)
      have e4 : 4 - lv = 4 - (lv + 1) + 1 := by omega
      have blk : ∀ {rs : List PyData}, rs ≠ [] → (∀ r ∈ rs, StmtF (BlockOk (4 - (lv + 1))) r) → BlockOk (4 - lv) (.tuple rs) := by
        intro rs h1 h2
        rw [e4]
        exact ⟨rs, rfl, h1, h2⟩
      have finN : ∀ (r : PyData) (v : V) (H' : Hp) (nn m' : Nat) (Lz : Int), StmtF (BlockOk (4 - lv)) r → 1 ≤ nn → -(4 - (lv : Int)) ≤ L - nn → (underL (blockL (4 - lv) (lv + 1)) lv r).length + 1 ≤ 2 * nn → Dr H' d g c m' → m' ≤ m + (100 * nn - 10) → Kit H' d g k Lz → Lz = L - nn → Mv3 d g k.kd H H' → St1 H' v r → Q v H' := by
        intro r v H' nn m' Lz hs h1 h2 hu D' hm' K' eL M' hv
        rw [eL] at K'
        exact kk r v H' nn hs h1 (fun q => by omega) (fun _ => h2) hu (D'.mono hm') K' M' hv
      refine if_tr (TrT.test (Tr.eqI (Tr.var rfl (.int way)) Tr.int)) (fun _ H9 s9 => ?_) (fun _ H9 s9 => ?_)
      · refine ⟨_, rfl, _, rfl, _, rfl, _, rfl, _, rfl, _, _, rfl, rfl, d, g, c, _, k, L - 1, rfl, by omega, by omega, D8.same s9, K8.same s9, KO, by omega, by omega, by omega, fun rs v Ha nb hne hlen hrs b1 b2 b3 hli Da Ka Ma hv => ⟨(by show 4 ≤ sizeLine; decide), fun p hp => ?_⟩⟩
        have hli : (blockL (4 - lv) (lv + 1) rs).length ≤ 2 * nb := by rw [e4]; exact hli
        refine finN _ _ _ (1 + nb) _ _ (.each hnm hwd (blk hne hrs)) (by omega) (by have := b3 (by omega); omega) ?_ (Da.same (same_new hp)) (by omega) (Ka.same (same_new hp)) (by omega) ((M8.trans (.same s9)).trans (Ma.trans (.same (same_new hp)))) (St1.tup hp (.cons (.str _) (.cons (.str _) (.cons (.str _) (.cons hv .nil)))))
        show (blockL (4 - lv) (lv + 1) rs).length + 1 ≤ _
        omega
      have s9 := s8.trans s9
      have D9 := D4.same s9
      have K9 := K4.same s9
      have M9 : Mv3 d g k.kd H H9 := M4.trans (.same s9)
      refine if_tr (TrT.test (Tr.eqI (Tr.var rfl (.int way)) Tr.int)) (fun _ Ha sa => ?_) (fun _ Ha sa => ?_)
      · refine ⟨_, rfl, _, rfl, _, rfl, _, _, rfl, rfl, d, g, c, _, k, L - 1, rfl, by omega, by omega, D9.same sa, K9.same sa, KO, by omega, by omega, by omega, fun rs v Hb nb hne hlen hrs b1 b2 b3 hli Db Kb Mb hv => ?_⟩
        have b4 := b3 (by omega)
        refine ⟨_, rfl, _, rfl, _, rfl, _, rfl, _, _, rfl, rfl, d, g, c, _, k, _, rfl, by omega, by omega, Db, Kb, KO, by omega, by omega, by omega, fun os u Hc no one olen oos o1 o2 o3 oli Dc Kc Mc hu => ⟨(by show 3 ≤ sizeLine; decide), fun p hp => ?_⟩⟩
        have hli : (blockL (4 - lv) (lv + 1) rs).length ≤ 2 * nb := by rw [e4]; exact hli
        have oli : (blockL (4 - lv) (lv + 1) os).length ≤ 2 * no := by rw [e4]; exact oli
        have o4 : -(4 - (lv : Int)) ≤ L - 1 - nb - no := by
          by_cases q : L - 1 - nb ≤ 0
          · have := o2 q; omega
          · have := o3 (by omega); omega
        refine finN _ _ _ (1 + nb + no) _ _ (.try_ (blk hne hrs) (blk one oos)) (by omega) (by omega) ?_ (Dc.same (same_new hp)) (by omega) (Kc.same (same_new hp)) (by omega) ((M9.trans (.same sa)).trans (Mb.trans (Mc.trans (.same (same_new hp))))) (St1.tup hp (.cons (.str _) (.cons (hv.mv (MvT.mv3 Db Kb Mc)) (.cons hu .nil))))
        show (blockL (4 - lv) (lv + 1) rs ++ secondL (blockL (4 - lv) (lv + 1)) lv "except:" (.tuple os)).length + 1 ≤ _
        rw [secondL_some one, List.length_append, List.length_cons]
        omega
      have sa := s9.trans sa
      have Da := D4.same sa
      have Ka := K4.same sa
      have Ma : Mv3 d g k.kd H Ha := M4.trans (.same sa)
      refine ⟨_, rfl, d, g, c, _, 2, rfl, Da, by omega, by decide, by decide, fun r Hb r0 r2 Db mvb => ⟨rfl, ?_⟩⟩
      have Kb := Ka.mv Da mvb
      refine ⟨_, rfl, _, rfl, d, g, c, _, k, _, rfl, Db, Kb, KO, by omega, fun e ve Hc he Dc mvc hve => ⟨_, _, rfl, ?_⟩⟩
      have Kc := Kb.mv Db mvc
      have Mc : Mv3 d g k.kd H Hc := Ma.trans ((Mv3.of mvb).trans (.of mvc))
      refine ⟨_, rfl, _, rfl, _, rfl, _, _, rfl, rfl, d, g, c, _, k, L - 1, rfl, by omega, by omega, Dc, Kc, KO, by omega, by omega, by omega, fun rs v Hd nb hne hlen hrs b1 b2 b3 hli Dd Kd Md hv => ?_⟩
      have b4 := b3 (by omega)
      have hli : (blockL (4 - lv) (lv + 1) rs).length ≤ 2 * nb := by rw [e4]; exact hli
      have hved := hve.mv (MvT.mv3 Dc Kc Md)
      generalize hbb : decide (V.int r = V.int 0) = bb
      refine ⟨fun σ He => ∃ (o : PyData) (vo : V) (no m' : Nat) (Lz : Int), σ = [some (.ref d), some (.ref k.kd), some (.int lv), some (.int way), some (.str nm), some (.str wd), none, none, some v, some (.bl bb), some ve, some vo, none] ∧ (o = .tuple [] ∨ BlockOk (4 - lv) o) ∧ (∀ z, (secondL (blockL (4 - lv) (lv + 1)) lv z o).length ≤ 2 * no + 1) ∧ Dr He d g c m' ∧ m' ≤ m + (100 * (1 + nb + no) - 10) ∧ Kit He d g k Lz ∧ Lz = L - 1 - nb - no ∧ -(4 - (lv : Int)) ≤ Lz ∧ Mv3 d g k.kd Hd He ∧ St1 He vo o, ?_, ?_⟩
      · refine ⟨_, rfl, _, rfl, ?_⟩
        cases bb with
        | true =>
          refine iteT ?_
          refine ⟨_, rfl, _, rfl, _, rfl, _, _, rfl, rfl, d, g, c, _, k, _, rfl, by omega, by omega, Dd, Kd, KO, by omega, by omega, by omega, fun os u He no one olen oos o1 o2 o3 oli De Ke Me hu => ?_⟩
          have oli : (blockL (4 - lv) (lv + 1) os).length ≤ 2 * no := by rw [e4]; exact oli
          have o4 : -(4 - (lv : Int)) ≤ L - 1 - nb - no := by
            by_cases q : L - 1 - nb ≤ 0
            · have := o2 q; omega
            · have := o3 (by omega); omega
          refine ⟨.tuple os, u, no, _, _, rfl, .inr (blk one oos), fun z => ?_, De, by omega, Ke, rfl, o4, Me, hu⟩
          rw [secondL_some one, List.length_cons]
          omega
        | false =>
          refine iteF ⟨(by show 0 ≤ sizeLine; decide), fun p hp => ?_⟩
          exact ⟨.tuple [], .ref p, 0, _, _, rfl, .inl rfl, fun z => by rw [secondL_nil]; simp, Dd.same (same_new hp), by omega, Kd.same (same_new hp), by omega, by omega, .same (same_new hp), St1.tup hp .nil⟩
      · rintro σ He ⟨o, vo, no, m', Lz, rfl, ho, hso, De, hm', Ke, eL, o4, Me, hvo⟩
        have hv := hv.mv (MvT.mv3 Dd Kd Me)
        have hve := hved.mv (MvT.mv3 Dd Kd Me)
        have h2 := hso "else:"
        have Mz : Mv3 d g k.kd H He := Mc.trans (Md.trans Me)
        by_cases hw6 : way = 6
        · refine ret_tr (Tr.ifT (TrT.test (Tr.eqI (Tr.var rfl (.int way)) Tr.int)) (decide_eq_true hw6) (Tr.tup (.cons Tr.str (.cons (Tr.var rfl hve) (.cons (Tr.var rfl (.str _)) (.cons (Tr.var rfl hv) (.cons (Tr.var rfl hvo) .nil))))))) fun u Hf sf hu => ?_
          refine finN _ _ _ (1 + nb + no) _ _ (.if_ he hwd (blk hne hrs) ho) (by omega) (by omega) ?_ (De.same sf) hm' (Ke.same sf) (by omega) (Mz.trans (.same sf)) hu
          show (blockL (4 - lv) (lv + 1) rs ++ secondL (blockL (4 - lv) (lv + 1)) lv "else:" o).length + 1 ≤ _
          rw [List.length_append]
          omega
        · refine ret_tr (Tr.ifF (TrT.test (Tr.eqI (Tr.var rfl (.int way)) Tr.int)) (decide_eq_false hw6) (Tr.tup (.cons Tr.str (.cons (Tr.var rfl hve) (.cons (Tr.var rfl hv) (.cons (Tr.var rfl hvo) .nil)))))) fun u Hf sf hu => ?_
          refine finN _ _ _ (1 + nb + no) _ _ (.there he (blk hne hrs) ho) (by omega) (by omega) ?_ (De.same sf) hm' (Ke.same sf) (by omega) (Mz.trans (.same sf)) hu
          show (blockL (4 - lv) (lv + 1) rs ++ secondL (blockL (4 - lv) (lv + 1)) lv "else:" o).length + 1 ≤ _
          rw [List.length_append]
          omega
end
end Sn
namespace Sn
open PySem PySem.Spec PyProof.Rows L2 TL
section
variable {P : Program} {w : World} {K : PySem.W.Frag} {mg : Str → Option Value} {base : Heap}
/-- while a block is drawn -/
structure BlkI (lv : Nat) (H : Hp) (d g c : Addr) (m : Nat) (k : KA) (L : Int) (F : Addr) (H2 : Hp) (rs : List PyData) (n : Nat) : Prop where
  ls : ∃ vs, H2 F = some (.lst vs) ∧ StA H2 vs rs
  le : 1 ≤ rs.length ∧ rs.length ≤ 4
  ok : ∀ r ∈ rs, StmtF (BlockOk (4 - lv)) r
  n1 : 1 ≤ n
  n2 : L ≤ 0 → n = 1
  n3 : 1 ≤ L → -(4 - (lv : Int)) ≤ L - n
  li : (blockL (4 - lv + 1) lv rs).length ≤ 2 * n
  dr : ∃ m', Dr H2 d g c m' ∧ m' + 9 * rs.length ≤ m + 100 * n
  ki : Kit H2 d g k (L - n)
  mv : Mv3 d g k.kd H H2
theorem ok_dblock (T : Txt K mg) {n lv : Nat} (hn : 5 ≤ n) (GW : FnOk P w K mg base CX0 n T.f_law_row T.fd_law_row ["_law_state", "_law_kit", "_law_level"] (spDRow lv)) : FnOk P w K mg base CX0 (n + 1) T.f_law_block T.fd_law_block ["_law_state", "_law_kit", "_law_level"] (spDBlock lv) := by
  have GT : FnOk P w K mg base CX0 2 T.f_law_take T.fd_law_take ["_law_state", "_law_size"] spTake := ok_take T
  refine T.F_law_block.ok sc_law_block (fun vs H Q E h => ?_) (fun cdv A outer s H vs Q E hr h => ?_)
  · obtain ⟨d, g, c, m, k, L, rfl, _⟩ := h
    rfl
  · obtain ⟨d, g, c, m, k, L, rfl, l1, l4, D, KI, KO, hm, hL, hL2, kk⟩ := h
    refine ⟨_, (pss_cons (ps_set (i := 3) sc_law_block.nd rfl (Or.inl rfl) (pe_lst (pa_cons (pe_call GW hr rfl T.g_law_row T.F_law_row.kp T.b_law_row .nil pass0 (pa_cons (pv 0) (pa_cons (pv 1) (pa_cons (pv 2) pa_nil)))) pa_nil)))
      (pss_cons (ps_while PassesOwn.never (PW.pt (pw_and (pt_cmpR op_gt (pe_dget (hu_of hr) (pv 1) pe_str (fun _ _ => rfl)) pe_int (nomark _)) (pw_and (pt_cmpR op_lt (pe_callB (call_lenN (K := K)) (by rfl) T.z_len (by decide +kernel) (pa_cons (pv 3) pa_nil)) pe_int (nomark _)) (pw_and1 (pt_cmpR op_eq (pe_call (ok_take T) (hr.mono (by omega)) rfl T.g_law_take T.F_law_take.kp T.b_law_take .nil pass0 (pa_cons (pv 0) (pa_cons pe_int pa_nil))) pe_int (nomark _))))))
        (pss_one (ps_expr (pe_bm PySem.F.plainAttrs_list PySem.F.slot_list_append PySem.F.type_list_append mt_append (pv 3) (pa_cons (pe_call GW hr rfl T.g_law_row T.F_law_row.kp T.b_law_row .nil pass0 (pa_cons (pv 0) (pa_cons (pv 1) (pa_cons (pv 2) pa_nil)))) pa_nil)))))
      (pss_one (ps_ret (pe_callTy call_tuple_of (by rfl) T.z_tuple (by decide +kernel) (pa_cons (pv 3) pa_nil)))))), ?_⟩
    refine ⟨_, rfl, _, rfl, _, rfl, d, g, c, m, k, L, rfl, l1, l4, D, KI, KO, by omega, hL, by omega, fun r v H1 n1 hs h1 h2 h3 hli D1 K1 M1 hv => ?_⟩
    refine ⟨(by show 1 ≤ sizeLine; decide), fun F hF => ?_⟩
    have sF := same_new (o := .lst [v]) hF
    obtain ⟨nF1, nF2, nF3⟩ := dr_new D1 hF
    have nF4 : F ≠ k.kd := fun e => by rw [e, K1.di] at hF; cases hF
    have hF0 : H F = none := by
      cases e : H F with
      | none => rfl
      | some o =>
        have a1 : F ≠ d := nF1
        have := M1 F o nF1 nF2 nF4 e
        rw [hF] at this
        cases this
    have e1 : ∀ (rs : List PyData) (r : PyData), (blockL (4 - lv + 1) lv (rs ++ [r])).length = (blockL (4 - lv + 1) lv rs).length + (stmtL (blockL (4 - lv) (lv + 1)) lv r).length := by
      intro rs r
      show ((rs ++ [r]).flatMap (stmtL (blockL (4 - lv) (lv + 1)) lv)).length = (rs.flatMap (stmtL (blockL (4 - lv) (lv + 1)) lv)).length + _
      rw [List.flatMap_append, List.length_append]
      simp
    have start : BlkI lv H d g c m k L F (upd H1 F (.lst [v])) [r] n1 := by
      refine ⟨⟨[v], upd_same, (StA.cons hv .nil).mv (MvT.same sF)⟩, ⟨by simp, by simp⟩, by simpa using hs, h1, fun q => h2 (by omega), h3, ?_, ⟨_, D1.same sF, by simp; omega⟩, K1.same sF, M1.trans (.same sF)⟩
      have := e1 [] r
      rw [List.nil_append] at this
      rw [this]
      show 0 + _ ≤ _
      omega
    refine ⟨fun mm σ H2 => ∃ (rs : List PyData) (nn : Nat), mm = 4 - rs.length ∧ σ = [some (.ref d), some (.ref k.kd), some (.int lv), some (.ref F)] ∧ BlkI lv H d g c m k L F H2 rs nn, ⟨_, [r], n1, rfl, rfl, start⟩, ?_⟩
    rintro mm σ H2 ⟨rs, nn, rfl, rfl, I⟩
    obtain ⟨vs, hF2, hvs⟩ := I.ls
    obtain ⟨m', D2, hm'⟩ := I.dr
    have lvs := hvs.at.len
    have I1 := I.n1
    have I3 := I.n3
    have Il := I.le
    have nnle : nn ≤ 20 := by
      by_cases q : 1 ≤ L
      · have := I3 q; omega
      · have := I.n2 (by omega); omega
    -- the end
    have fin : ∀ (H3 : Hp) (m3 : Nat), Mv d g H2 H3 → Dr H3 d g c m3 → m3 ≤ m' + 1 → tRet (tCB (fun xs H_1 Q => ∃ p ys, xs = [V.ref p] ∧ ((SqL K H_1 p ys ∧ ∀ (l : Addr), H_1 l = none → Q (.ref l) (upd H_1 l (.tup ys))) ∨ (SqT K H_1 p ys ∧ Q (.ref p) H_1))) (tCons (tVar 3) tNil)) { nx := fun _ H' => Q .non H', rt := Q } [some (.ref d), some (.ref k.kd), some (.int lv), some (.ref F)] H3 := by
      intro H3 m3 mv3 D3 h3'
      refine ⟨_, rfl, F, vs, rfl, .inl ⟨SqL.at (mv3 _ _ nF1 nF2 hF2), fun t ht => ?_⟩⟩
      refine kk rs _ _ nn (fun q => by rw [q] at Il; simp at Il) Il.2 I.ok I1 I.n2 I3 I.li ((D3.same (same_new ht)).mono (by omega)) ((I.ki.mv D2 mv3).same (same_new ht)) (I.mv.trans ((Mv3.of mv3).trans (.same (same_new ht)))) (St1.tup ht (hvs.mv (MvT.mv D2 mv3)))
    refine ⟨_, rfl, k.kd, _, rfl, dget_of I.ki.di (kit_left _ _ _), _, _, rfl, rfl, _, rfl, ?_⟩
    by_cases h0 : 0 < L - nn
    · refine iteDT (decide_eq_true h0) ?_
      refine ⟨_, rfl, _, vs.length, rfl, .inl ⟨_, SqL.at hF2, rfl⟩, _, _, rfl, rfl, _, rfl, ?_⟩
      by_cases h4 : vs.length < 4
      · refine iteDT (decide_eq_true (by omega)) ?_
        refine ⟨_, rfl, d, g, c, _, 2, rfl, D2, by omega, by decide, by decide, fun x H3 x0 x2 D3 mv3 => ⟨rfl, _, rfl, ?_⟩⟩
        by_cases hx : x = 0
        · refine iteDT (by rw [hx]; rfl) ?_
          refine ⟨fun σ' H' => ∃ mm', mm' < 4 - rs.length ∧ ∃ (rs' : List PyData) (nn' : Nat), mm' = 4 - rs'.length ∧ σ' = [some (.ref d), some (.ref k.kd), some (.int lv), some (.ref F)] ∧ BlkI lv H d g c m k L F H' rs' nn', fun σ' H' h => h, ?_⟩
          have K3 := I.ki.mv D2 mv3
          have hF3 := mv3 _ _ nF1 nF2 hF2
          refine ⟨_, rfl, .inl ⟨rfl, _, SqL.at hF3⟩, _, rfl, _, rfl, _, rfl, d, g, c, _, k, L - nn, rfl, l1, l4, D3, K3, KO, by omega, by omega, by omega, fun r2 v2 H4 n2 hs2 p1 p2 p3 hli2 D4 K4 M4 hv2 => ?_⟩
          have hF4 := M4 _ _ nF1 nF2 nF4 hF3
          refine ⟨F, _, _, rfl, rfl, hF4, small1000 (by omega), ?_⟩
          refine ⟨4 - (rs ++ [r2]).length, by rw [List.length_append]; simp; omega, rs ++ [r2], nn + n2, rfl, rfl, ?_⟩
          have p4 := p3 (by omega)
          refine ⟨⟨_, upd_same, ((hvs.mv ((MvT.mv D2 mv3).trans (MvT.mv3 D3 K3 M4))).app (.cons hv2 .nil)).mv (MvT.put hF4)⟩, ?_, ?_, by omega, fun q => by omega, fun q => by omega, ?_, ⟨_, D4.upd ⟨nF1, nF2, nF3⟩, ?_⟩, ?_, ?_⟩
          · rw [List.length_append]; simp; omega
          · intro y hy
            rcases List.mem_append.mp hy with h | h
            · exact I.ok y h
            · rw [List.mem_singleton.mp h]; exact hs2
          · rw [e1]
            have := I.li
            omega
          · rw [List.length_append]; simp; omega
          · have : L - ((nn + n2 : Nat) : Int) = L - nn - n2 := by omega
            rw [this]
            refine ⟨?_, ?_, ?_, K4.n0, K4.n1, K4.n2⟩
            · rw [upd_ne nF4.symm]; exact K4.di
            · have : k.qn ≠ F := fun e => by
                have a := KI.hn
                rw [e, hF0] at a; cases a
              rw [upd_ne this]; exact K4.hn
            · have : k.qw ≠ F := fun e => by
                have a := KI.hw
                rw [e, hF0] at a; cases a
              rw [upd_ne this]; exact K4.hw
          · exact Mv3.put (I.mv.trans ((Mv3.of mv3).trans M4)) hF0
        · refine iteDF (decide_eq_false fun q => hx (by injection q)) ?_
          exact fin H3 _ mv3 D3 (by omega)
      · refine iteDF (decide_eq_false (by omega)) (iteF ?_)
        exact fin H2 _ (Mv.refl _ _ _) D2 (by omega)
    · refine iteDF (decide_eq_false h0) (iteF ?_)
      exact fin H2 _ (Mv.refl _ _ _) D2 (by omega)
theorem ok_dblock1 (T : Txt K mg) : FnOk P w K mg base CX0 13 T.f_law_block T.fd_law_block ["_law_state", "_law_kit", "_law_level"] (spDBlock 1) := by
  have b5 : FnOk P w K mg base CX0 5 T.f_law_block T.fd_law_block ["_law_state", "_law_kit", "_law_level"] (spDBlock 5) := fnOk_absurd fun vs H Q E h => by
    obtain ⟨d, g, c, m, k, L, _, _, h4, _⟩ := h
    omega
  exact ok_dblock T (by decide) (ok_drow T (by decide) (ok_dblock T (by decide) (ok_drow T (by decide) (ok_dblock T (by decide) (ok_drow T (by decide) (ok_dblock T (by decide) (ok_drow T (by decide) b5)))))))
end
end Sn
namespace Sn
open PySem PySem.Spec PyProof.Rows L2 TL
theorem cutV_from (xs : List V) (b : Nat) : cutV xs (some (b : Int)) none = xs.drop b := by
  unfold cutV
  rw [HT.sIx_nat, HT.sIx_none]
  by_cases h : b ≤ xs.length
  · rw [Nat.min_eq_left h]
    exact List.take_of_length_le (by rw [List.length_drop]; exact Nat.le_refl _)
  · rw [Nat.min_eq_right (by omega), Nat.sub_self, List.take_zero, List.drop_eq_nil_of_le (by omega)]
theorem cutV_to (xs : List V) (b : Nat) : cutV xs none (some (b : Int)) = xs.take b := by
  unfold cutV
  rw [HT.sIx_nat, HT.sIx_none, List.drop_zero, Nat.sub_zero]
  by_cases h : b ≤ xs.length
  · rw [Nat.min_eq_left h]
  · rw [Nat.min_eq_right (by omega), List.take_length, List.take_of_length_le (by omega)]
theorem StA.ofStrs {H : Hp} : ∀ zs : List Str, StA H (zs.map V.str) (zs.map PyData.str)
  | [] => .nil
  | z :: zs => .cons (.str z) (StA.ofStrs zs)
/-- the names from the b-th on, and those ahead of it behind them -/
def rot (b : Nat) (ns : List Str) : List Str := ns.drop b ++ ns.take b
theorem rot_perm (b : Nat) (ns : List Str) : (rot b ns).Perm ns := by
  unfold rot
  exact (List.perm_append_comm).trans (by rw [List.take_append_drop])
theorem rot_ok {b t : Nat} {ns : List Str} (nd : ns.Nodup) (hn : ∀ n ∈ ns, isN n = true) : ((rot b ns).take t).Nodup ∧ (∀ n ∈ (rot b ns).take t, isN n = true) ∧ ((rot b ns).take t).length = min t ns.length := by
  refine ⟨((rot_perm b ns).nodup_iff.mpr nd).sublist (List.take_sublist _ _), fun n h => hn n ((rot_perm b ns).mem_iff.mp (List.mem_of_mem_take h)), ?_⟩
  rw [List.length_take, (rot_perm b ns).length_eq]
def digS : Str := "0123456789ab"
theorem tl_dig : tl digS = [48, 49, 50, 51, 52, 53, 54, 55, 56, 57, 97, 98] := by decide +kernel
theorem dig_nd : (tl digS).Nodup := by decide +kernel
theorem dig_sg : ∀ c ∈ tl digS, c ∈ tl sgnS := by decide +kernel
/-- the keys that are drawn: words, all different by their last signs -/
structure TKeys (ks : List Str) : Prop where
  ok : ∀ z ∈ ks, isW z = true ∧ z ≠ ""
  last : ∀ z ∈ ks, ∃ j, j < ks.length ∧ (tl z).getLast? = (tl digS)[j]?
  nd : ks.Nodup
theorem TKeys.nil : TKeys [] := ⟨(fun z h => nomatch h), (fun z h => nomatch h), List.Pairwise.nil⟩
theorem TKeys.snoc {ks : List Str} {y : Str} {ch : Nat} (h : TKeys ks) (hl : y.length ≤ 7) (hs : ∀ x ∈ tl y, x ∈ tl sgnS) (hc : (tl digS)[ks.length]? = some ch) : TKeys (ks ++ [y ++ ⟨#[ch]⟩]) := by
  have et : tl (y ++ ⟨#[ch]⟩) = tl y ++ [ch] := by rw [tl_append]
  have hcm : ch ∈ tl digS := List.mem_of_getElem? hc
  have l12 : ks.length < (tl digS).length := (List.getElem?_eq_some_iff.mp hc).1
  have hw : isW (y ++ ⟨#[ch]⟩) = true ∧ (y ++ ⟨#[ch]⟩ : Str) ≠ "" := by
    refine ⟨?_, fun e => ?_⟩
    · unfold isW
      simp only [Bool.and_eq_true, decide_eq_true_eq, List.all_eq_true]
      rw [len_tl, et, List.length_append, ← len_tl]
      refine ⟨by simp; omega, fun c hc' => ?_⟩
      rcases List.mem_append.mp hc' with q | q
      · exact hs c q
      · rw [List.mem_singleton.mp q]; exact dig_sg ch hcm
    · have := congrArg tl e
      rw [et, show tl ("" : Str) = [] by decide +kernel] at this
      simp at this
  have hlast : (tl (y ++ ⟨#[ch]⟩ : Str)).getLast? = (tl digS)[ks.length]? := by rw [et, hc]; simp
  refine ⟨fun z hz => ?_, fun z hz => ?_, ?_⟩
  · rcases List.mem_append.mp hz with q | q
    · exact h.ok z q
    · rw [List.mem_singleton.mp q]; exact hw
  · rw [List.length_append]
    rcases List.mem_append.mp hz with q | q
    · obtain ⟨j, hj, e⟩ := h.last z q
      exact ⟨j, by omega, e⟩
    · rw [List.mem_singleton.mp q]; exact ⟨ks.length, by simp, hlast⟩
  · refine List.nodup_append.mpr ⟨h.nd, by simp, fun a ha b hb e => ?_⟩
    rw [List.mem_singleton.mp hb] at e
    obtain ⟨j, hj, e2⟩ := h.last a ha
    rw [e, hlast] at e2
    have := (List.getElem?_inj (by omega) dig_nd).mp e2
    omega
section
variable {P : Program} {w : World} {K : PySem.W.Frag} {mg : Str → Option Value} {base : Heap}
/-- names[begin:] + names[:begin] -/
theorem rot_tr {σ : L2.St} {H : Hp} {q : Addr} {ns : List Str} {b i j : Nat} {Q : VK} (hq : H q = some (.lst (ns.map V.str))) (e1 : σ[i]? = some (some (.ref q))) (e2 : σ[j]? = some (some (.int (b : Nat)))) (hl : ns.length ≤ 500)
    (k : ∀ p H', Same H H' → H' p = some (.lst ((rot b ns).map V.str)) → H p = none → Q (.ref p) H') :
    tOp rCat (tSl (rSlL K) (tVar i) (tPart (tVar j)) tNoPart) (tSl (rSlL K) (tVar i) tNoPart (tPart (tVar j))) σ H Q := by
  refine ⟨_, e1, _, e2, _, rfl, q, _, rfl, SqL.at hq, fun p1 h1 => ?_⟩
  have s1 := same_new (o := .lst (cutV (ns.map V.str) (some (b : Int)) none)) h1
  refine ⟨_, e1, _, e2, _, rfl, q, _, rfl, SqL.at (s1 _ _ hq), fun p2 h2 => ?_⟩
  have s2 := same_new (o := .lst (cutV (ns.map V.str) none (some (b : Int)))) h2
  have l1 := cutV_length (ns.map V.str) (some (b : Int)) none
  have l2 := cutV_length (ns.map V.str) none (some (b : Int))
  rw [List.length_map] at l1 l2
  refine ⟨p1, p2, _, _, rfl, rfl, s2 _ _ upd_same, upd_same, Nat.le_of_lt (small1000 (by omega)), fun p3 h3 => ?_⟩
  have e : cutV (ns.map V.str) (some (b : Int)) none ++ cutV (ns.map V.str) none (some (b : Int)) = (rot b ns).map V.str := by
    rw [cutV_from, cutV_to]
    unfold rot
    rw [List.map_append, List.map_drop, List.map_take]
  rw [e]
  exact k p3 _ ((s1.trans s2).trans (same_new h3)) upd_same (none_base (s1.trans s2) h3)
/-- a drawn item that binds own, or nothing -/
def spDItem : Sp := fun vs H Q _ => ∃ (d g c : Addr) (m : Nat) (k : KA) (l : Int) (own : Str), vs = [.ref d, .ref k.kd, .str own] ∧ Dr H d g c m ∧ Kit H d g k l ∧ KOk k ∧ isN own = true ∧ m ≤ 800000000 ∧
  ∀ (it : PyData) (v : V) (H' : Hp) (l' : Int), ItemOk it → (∀ x, bindsD it = some x → x = own) → (itemL it).length ≤ 21 → Dr H' d g c (m + 1200) → Kit H' d g k l' → Mv3 d g k.kd H H' → St1 H' v it → Q v H'
theorem ok_ditem (T : Txt K mg) : FnOk P w K mg base CX0 14 T.f_law_item T.fd_law_item ["_law_state", "_law_kit", "_law_own"] spDItem := by
  have GT : FnOk P w K mg base CX0 2 T.f_law_take T.fd_law_take ["_law_state", "_law_size"] spTake := ok_take T
  have GP : FnOk P w K mg base CX0 3 T.f_law_pick T.fd_law_pick ["_law_state", "_law_some"] spPick := ok_pick T
  have GW : FnOk P w K mg base CX0 4 T.f_law_any_word T.fd_law_any_word ["_law_state", "_law_least", "_law_most"] spAnyW := ok_any_word T
  have GB : FnOk P w K mg base CX0 13 T.f_law_block T.fd_law_block ["_law_state", "_law_kit", "_law_level"] (spDBlock 1) := ok_dblock1 T
  refine T.F_law_item.ok sc_law_item (fun vs H Q E h => ?_) (fun cdv A outer s H vs Q E hr h => ?_)
  · obtain ⟨d, g, c, m, k, l, own, rfl, _⟩ := h
    rfl
  · obtain ⟨d, g, c, m, k, l, own, rfl, D, KI, KO, ho, hm, kk⟩ := h
    refine ⟨_, (pss_cons (ps_asg (pe_tup (pa_cons (pe_call (ok_take T) (hr.mono (by decide)) rfl T.g_law_take T.F_law_take.kp T.b_law_take .nil pass0 (pa_cons (pv 0) (pa_cons pe_int pa_nil))) (pa_cons (pe_dget (hu_of hr) (pv 1) pe_str (fun _ _ => rfl)) pa_nil))) (pg_tup rfl (pgs_cons (pg_name (i := 3) sc_law_item.nd rfl (Or.inl rfl)) (pgs_cons (pg_name (i := 4) sc_law_item.nd rfl (Or.inr rfl)) pgs_nil))))
      (pss_cons (ps_if (pt_cmpR op_eq (pv 3) pe_int (nomark _))
        (pss_one (ps_ret (pe_tup (pa_cons pe_str (pa_cons (pv 2) (pa_cons (pe_call (ok_pick T) (hr.mono (by decide)) rfl T.g_law_pick T.F_law_pick.kp T.b_law_pick .nil pass0 (pa_cons (pv 0) (pa_cons (pv 4) pa_nil))) (pa_cons (pe_call (ok_pick T) (hr.mono (by decide)) rfl T.g_law_pick T.F_law_pick.kp T.b_law_pick .nil pass0 (pa_cons (pv 0) (pa_cons (pe_lst (pa_cons (pv 2) (pa_cons (pe_call (ok_pick T) (hr.mono (by decide)) rfl T.g_law_pick T.F_law_pick.kp T.b_law_pick .nil pass0 (pa_cons (pv 0) (pa_cons (pv 4) pa_nil))) pa_nil))) pa_nil))) pa_nil)))))))
        pss_nil)
      (pss_cons (ps_if (pt_cmpR op_eq (pv 3) pe_int (nomark _))
        (pss_one (ps_ret (pe_tup (pa_cons pe_str (pa_cons (pe_call (ok_pick T) (hr.mono (by decide)) rfl T.g_law_pick T.F_law_pick.kp T.b_law_pick .nil pass0 (pa_cons (pv 0) (pa_cons (pv 4) pa_nil))) pa_nil)))))
        pss_nil)
      (pss_cons (ps_if (pt_cmpR op_eq (pv 3) pe_int (nomark _))
        (pss_cons (ps_set (i := 5) sc_law_item.nd rfl (Or.inl rfl) (pe_call (ok_take T) (hr.mono (by decide)) rfl T.g_law_take T.F_law_take.kp T.b_law_take .nil pass0 (pa_cons (pv 0) (pa_cons (pe_callB (call_lenN (K := K)) (by rfl) T.z_len (by decide +kernel) (pa_cons (pv 4) pa_nil)) pa_nil))))
      (pss_one (ps_ret (pe_tup (pa_cons pe_str (pa_cons (pe_callTy call_tuple_of (by rfl) T.z_tuple (by decide +kernel) (pa_cons (pe_slice sl_list (pe_op op_cat (pe_slice sl_list (pv 4) (po_some (pv 5)) po_none) (pe_slice sl_list (pv 4) po_none (po_some (pv 5)))) po_none (po_some (pe_op op_add pe_int (pe_call (ok_take T) (hr.mono (by decide)) rfl T.g_law_take T.F_law_take.kp T.b_law_take .nil pass0 (pa_cons (pv 0) (pa_cons pe_int pa_nil)))))) pa_nil)) pa_nil))))))
        pss_nil)
      (pss_cons (ps_if (pt_cmpR op_eq (pv 3) pe_int (nomark _))
        (pss_one (ps_ret (pe_tup (pa_cons pe_str (pa_cons (pe_call (ok_pick T) (hr.mono (by decide)) rfl T.g_law_pick T.F_law_pick.kp T.b_law_pick .nil pass0 (pa_cons (pv 0) (pa_cons (pv 4) pa_nil))) pa_nil)))))
        pss_nil)
      (pss_cons (ps_if (pt_cmpR op_eq (pv 3) pe_int (nomark _))
        (pss_one (ps_ret (pe_tup (pa_cons pe_str (pa_cons (pv 2) (pa_cons (pe_call (ok_pick T) (hr.mono (by decide)) rfl T.g_law_pick T.F_law_pick.kp T.b_law_pick .nil pass0 (pa_cons (pv 0) (pa_cons (pe_dget (hu_of hr) (pv 1) pe_str (fun _ _ => rfl)) pa_nil))) pa_nil))))))
        pss_nil)
      (pss_cons (ps_if (pt_cmpR op_eq (pv 3) pe_int (nomark _))
        (pss_cons (ps_setLc (i := 6) (own := [("_law_k", 8)]) (g := gName 8) rfl sc_law_item.nd rfl rfl (sw_true rfl rfl rfl (by decide +kernel)) (pi_range1 (by rfl) T.z_range (pa_cons (pe_op op_add pe_int (pe_call (ok_take T) (hr.mono (by decide)) rfl T.g_law_take T.F_law_take.kp T.b_law_take .nil pass0 (pa_cons (pv 0) (pa_cons pe_int pa_nil)))) pa_nil)) (blkOk_by (own := [("_law_k", 8)]) (N := n_law_item) (sc := defScope s_law_item) (by decide +kernel)) (fun _ _ _ _ _ => (pg_name (i := 8) sc_law_item.nd rfl (Or.inl rfl))) (fun _ _ _ _ _ => pts_nil) (fun _ _ _ _ _ => (pe_op op_add_str (pe_call (ok_any_word T) (hr.mono (by decide)) rfl T.g_law_any_word T.F_law_any_word.kp T.b_law_any_word .nil pass0 (pa_cons (pv 0) (pa_cons pe_int (pa_cons pe_int pa_nil)))) (pe_ix ix_str pe_str (pv 8) (fun _ _ => rfl)))))
      (pss_one (ps_ret (pe_tup (pa_cons pe_str (pa_cons (pv 2) (pa_cons (pe_callTy call_tuple_of (by rfl) T.z_tuple (by decide +kernel) (pa_cons (pe_lc (own := [("_law_key", 9)]) (g := gName 9) (by rfl) sc_law_item.nd (pi_list (pv 6)) (blkOk_by (own := [("_law_key", 9)]) (N := n_law_item) (sc := defScope s_law_item) (by decide +kernel)) (fun _ _ _ _ _ => (pg_name (i := 9) sc_law_item.nd rfl (Or.inl rfl))) (fun _ _ _ _ _ => pts_nil) (fun _ _ _ _ _ => (pe_tup (pa_cons (pv 9) (pa_cons (pe_call (ok_pick T) (hr.mono (by decide)) rfl T.g_law_pick T.F_law_pick.kp T.b_law_pick .nil pass0 (pa_cons (pv 0) (pa_cons (pv 4) pa_nil))) pa_nil))))) pa_nil)) pa_nil)))))))
        pss_nil)
      (pss_cons (ps_set (i := 5) sc_law_item.nd rfl (Or.inl rfl) (pe_call (ok_take T) (hr.mono (by decide)) rfl T.g_law_take T.F_law_take.kp T.b_law_take .nil pass0 (pa_cons (pv 0) (pa_cons (pe_callB (call_lenN (K := K)) (by rfl) T.z_len (by decide +kernel) (pa_cons (pv 4) pa_nil)) pa_nil))))
      (pss_cons (ps_set (i := 7) sc_law_item.nd rfl (Or.inl rfl) (pe_slice sl_list (pe_op op_cat (pe_slice sl_list (pv 4) (po_some (pv 5)) po_none) (pe_slice sl_list (pv 4) po_none (po_some (pv 5)))) po_none (po_some (pe_call (ok_take T) (hr.mono (by decide)) rfl T.g_law_take T.F_law_take.kp T.b_law_take .nil pass0 (pa_cons (pv 0) (pa_cons pe_int pa_nil))))))
      (pss_cons (ps_dput (hu_of hr) (pv 1) pe_str pe_int rfl)
      (pss_one (ps_ret (pe_tup (pa_cons pe_str (pa_cons (pv 2) (pa_cons (pe_callTy call_tuple_of (by rfl) T.z_tuple (by decide +kernel) (pa_cons (pv 7) pa_nil)) (pa_cons (pe_call GB (hr.mono (by decide)) rfl T.g_law_block T.F_law_block.kp T.b_law_block .nil pass0 (pa_cons (pv 0) (pa_cons (pv 1) (pa_cons pe_int pa_nil)))) pa_nil))))))))))))))))), ?_⟩
    have lnm : 0 < (k.ns.map V.str).length ∧ (k.ns.map V.str).length ≤ 1000 := by rw [List.length_map]; have := KO.ln; omega
    have lwm : 0 < (k.ws.map V.str).length ∧ (k.ws.map V.str).length ≤ 1000 := by rw [List.length_map]; have := KO.lw; omega
    refine ⟨_, rfl, d, g, c, m, 9, rfl, D, by omega, by decide, by decide, fun way H1 w0 w9 D1 mv1 => ?_⟩
    have K1 := KI.mv D mv1
    refine ⟨_, rfl, k.kd, _, rfl, dget_of K1.di (kit_names _ _ _), (by show 2 ≤ sizeLine; decide), fun p0 hp0 => ?_⟩
    refine ⟨p0, _, rfl, .inl (.inl upd_same), rfl, _, _, rfl, _, _, rfl, rfl, ?_⟩
    have s0 := same_new (o := .tup [V.int way, V.ref k.qn]) hp0
    have D1 := D1.same s0
    have K1 := K1.same s0
    have mv1 := mv1.trans (Mv.same s0)
    generalize upd H1 p0 (.tup [V.int way, V.ref k.qn]) = H1 at D1 K1 mv1
    have fin1 : ∀ (it : PyData) (v : V) (H' : Hp) (m' : Nat), ItemOk it → (∀ x, bindsD it = some x → x = own) → itemL it = [itemTxt it] → Dr H' d g c m' → m' ≤ m + 1200 → Mv d g H1 H' → St1 H' v it → Q v H' := by
      intro it v H' m' hi hb hl D' hm' mv' hv
      exact kk it v H' l hi hb (by rw [hl]; simp) (D'.mono hm') (K1.mv D1 mv') ((Mv3.of mv1).trans (.of mv')) hv
    refine if_tr (TrT.test (Tr.eqI (Tr.var rfl (.int way)) Tr.int)) (fun _ H2 s2 => ?_) (fun _ H2 s2 => ?_)
    · have K2 := K1.same s2
      refine ⟨_, rfl, _, rfl, _, rfl, d, g, c, _, D1.same s2, by omega, .inr ⟨k.qn, _, rfl, K2.hn, K2.n1, lnm.1, lnm.2, fun x H3 hx D3 mv3 => ?_⟩⟩
      obtain ⟨mn, hmn, rfl⟩ := List.mem_map.mp hx
      have K3 := K2.mv (D1.same s2) mv3
      refine ⟨_, rfl, _, rfl, _, rfl, _, rfl, d, g, c, _, D3, by omega, .inr ⟨k.qn, _, rfl, K3.hn, K3.n1, lnm.1, lnm.2, fun x H4 hx D4 mv4 => ?_⟩⟩
      obtain ⟨nn, hnn, rfl⟩ := List.mem_map.mp hx
      refine ⟨(by show 2 ≤ sizeLine; decide), fun q hq => ?_⟩
      obtain ⟨nq1, nq2, nq3⟩ := dr_new D4 hq
      have sq := same_new (o := .lst [V.str own, V.str nn]) hq
      refine ⟨d, g, c, _, D4.same sq, by omega, .inr ⟨q, _, rfl, upd_same, nq2, by show 0 < 2; decide, by show 2 ≤ 1000; decide, fun x H5 hx D5 mv5 => ?_⟩⟩
      obtain ⟨zz, rfl, hzz⟩ : ∃ zz : Str, x = .str zz ∧ isN zz = true := by
        simp only [List.mem_cons, List.not_mem_nil, or_false] at hx
        rcases hx with rfl | rfl
        · exact ⟨own, rfl, ho⟩
        · exact ⟨nn, rfl, KO.ns nn hnn⟩
      refine ⟨(by show 4 ≤ sizeLine; decide), fun p hp => ?_⟩
      refine fin1 _ _ _ _ (.use ho (KO.ns mn hmn) hzz) (fun x e => ?_) rfl (D5.same (same_new hp)) (by omega) ((Mv.same s2).trans (mv3.trans (mv4.trans ((Mv.same sq).trans (mv5.trans (Mv.same (same_new hp))))))) (St1.tup hp (.cons (.str _) (.cons (.str _) (.cons (.str _) (.cons (.str _) .nil)))))
      have : bindsD (.tuple [.str "use", .str own, .str mn, .str zz]) = some own := by
        unfold bindsD
        rw [if_pos (show _ ∈ binders by simp [hdW, binders])]
        rfl
      rw [this] at e
      exact (Option.some.inj e).symm
    have K2 := K1.same s2
    have D2 := D1.same s2
    refine if_tr (TrT.test (Tr.eqI (Tr.var rfl (.int way)) Tr.int)) (fun _ H3 s3 => ?_) (fun _ H3 s3 => ?_)
    · refine ⟨_, rfl, _, rfl, d, g, c, _, D2.same s3, by omega, .inr ⟨k.qn, _, rfl, (K2.same s3).hn, K2.n1, lnm.1, lnm.2, fun x H4 hx D4 mv4 => ?_⟩⟩
      obtain ⟨mn, hmn, rfl⟩ := List.mem_map.mp hx
      refine ⟨(by show 2 ≤ sizeLine; decide), fun p hp => ?_⟩
      exact fin1 _ _ _ _ (.star (KO.ns mn hmn)) (fun x e => by cases e) rfl (D4.same (same_new hp)) (by omega) ((Mv.same (s2.trans s3)).trans (mv4.trans (Mv.same (same_new hp)))) (St1.tup hp (.cons (.str _) (.cons (.str _) .nil)))
    have s3 := s2.trans s3
    have K3 := K1.same s3
    have D3 := D1.same s3
    have lnm2 : LenV K (.ref k.qn) H3 k.ns.length := .inl ⟨_, SqL.at K3.hn, by rw [List.length_map]⟩
    refine if_tr (TrT.test (Tr.eqI (Tr.var rfl (.int way)) Tr.int)) (fun _ H4 s4 => ?_) (fun _ H4 s4 => ?_)
    · have K4 := K3.same s4
      have D4 := D3.same s4
      have ln := KO.ln
      refine ⟨_, rfl, _, rfl, _, k.ns.length, rfl, .inl ⟨_, SqL.at K4.hn, by rw [List.length_map]⟩, d, g, c, _, _, rfl, D4, by omega, by omega, by omega, fun b H5 b0 bn D5 mv5 => ?_⟩
      obtain ⟨b, rfl⟩ := Int.eq_ofNat_of_zero_le b0
      have K5 := K4.mv D4 mv5
      refine rot_tr (K := K) (ns := k.ns) (b := b) K5.hn rfl rfl (by omega) fun p3 H6 s6 h6 n6 => ?_
      have D6 := D5.same s6
      obtain ⟨np1, np2, np3⟩ := dr_new D5 n6
      refine ⟨_, rfl, d, g, c, _, 4, rfl, D6, by omega, by decide, by decide, fun t H7 t0 t4 D7 mv7 => ?_⟩
      obtain ⟨t, rfl⟩ := Int.eq_ofNat_of_zero_le t0
      have h7 := mv7 _ _ np1 np2 h6
      refine ⟨_, _, rfl, rfl, _, rfl, p3, _, rfl, SqL.at h7, fun p4 hp4 => ?_⟩
      have e7 : cutV ((rot b k.ns).map V.str) none (some ((1 : Int) + (t : Nat))) = ((rot b k.ns).take (1 + t)).map V.str := by
        rw [show (1 : Int) + (t : Nat) = ((1 + t : Nat) : Int) by omega, cutV_to, List.map_take]
      rw [e7]
      have s8 := same_new (o := .lst (((rot b k.ns).take (1 + t)).map V.str)) hp4
      refine ⟨p4, _, rfl, .inl ⟨SqL.at upd_same, fun t5 ht5 => ?_⟩⟩
      have s9 := same_new (o := .tup (((rot b k.ns).take (1 + t)).map V.str)) ht5
      refine ⟨(by show 2 ≤ sizeLine; decide), fun p hp => ?_⟩
      obtain ⟨r1, r2, r3⟩ := rot_ok (b := b) (t := 1 + t) KO.nd KO.ns
      exact fin1 _ _ _ _ (.offer (by rw [r3]; omega) (by rw [r3]; omega) r2 r1) (fun x e => by cases e) rfl (D7.same ((s8.trans s9).trans (same_new hp))) (by omega) ((Mv.same (s3.trans s4)).trans (mv5.trans ((Mv.same s6).trans (mv7.trans (Mv.same ((s8.trans s9).trans (same_new hp))))))) (St1.tup hp (.cons (.str _) (.cons (St1.tup ht5 (StA.ofStrs _)) .nil)))
    have s4 := s3.trans s4
    have K4 := K1.same s4
    have D4 := D1.same s4
    refine if_tr (TrT.test (Tr.eqI (Tr.var rfl (.int way)) Tr.int)) (fun _ H5 s5 => ?_) (fun _ H5 s5 => ?_)
    · refine ⟨_, rfl, _, rfl, d, g, c, _, D4.same s5, by omega, .inr ⟨k.qn, _, rfl, (K4.same s5).hn, K4.n1, lnm.1, lnm.2, fun x H6 hx D6 mv6 => ?_⟩⟩
      obtain ⟨mn, hmn, rfl⟩ := List.mem_map.mp hx
      refine ⟨(by show 2 ≤ sizeLine; decide), fun p hp => ?_⟩
      exact fin1 _ _ _ _ (.entry (KO.ns mn hmn)) (fun x e => by cases e) rfl (D6.same (same_new hp)) (by omega) ((Mv.same (s4.trans s5)).trans (mv6.trans (Mv.same (same_new hp)))) (St1.tup hp (.cons (.str _) (.cons (.str _) .nil)))
    have s5 := s4.trans s5
    have K5 := K1.same s5
    have D5 := D1.same s5
    refine if_tr (TrT.test (Tr.eqI (Tr.var rfl (.int way)) Tr.int)) (fun _ H6 s6 => ?_) (fun _ H6 s6 => ?_)
    · refine ⟨_, rfl, _, rfl, _, rfl, k.kd, _, rfl, dget_of (K5.same s6).di (kit_words _ _ _), d, g, c, _, D5.same s6, by omega, .inr ⟨k.qw, _, rfl, (K5.same s6).hw, K5.n2, lwm.1, lwm.2, fun x H7 hx D7 mv7 => ?_⟩⟩
      obtain ⟨wd, hwd, rfl⟩ := List.mem_map.mp hx
      refine ⟨(by show 3 ≤ sizeLine; decide), fun p hp => ?_⟩
      refine fin1 _ _ _ _ (.set ho (KO.ws wd hwd)) (fun x e => ?_) rfl (D7.same (same_new hp)) (by omega) ((Mv.same (s5.trans s6)).trans (mv7.trans (Mv.same (same_new hp)))) (St1.tup hp (.cons (.str _) (.cons (.str _) (.cons (.str _) .nil))))
      have : bindsD (.tuple [.str "set", .str own, .str wd]) = some own := by
        unfold bindsD
        rw [if_pos (show _ ∈ binders by simp [hdW, binders])]
        rfl
      rw [this] at e
      exact (Option.some.inj e).symm
    have s6 := s5.trans s6
    have K6 := K1.same s6
    have D6 := D1.same s6
    refine if_tr (TrT.test (Tr.eqI (Tr.var rfl (.int way)) Tr.int)) (fun _ H7 s7 => ?_) (fun _ H7 s7 => ?_)
    · have s7 := s6.trans s7
      have K7 := K1.same s7
      have D7 := D1.same s7
      refine ⟨_, rfl, d, g, c, _, 4, rfl, D7, by omega, by decide, by decide, fun t H8 t0 t4 D8 mv8 => ?_⟩
      obtain ⟨t, rfl⟩ := Int.eq_ofNat_of_zero_le t0
      have K8 := K7.mv D7 mv8
      refine ⟨_, _, rfl, rfl, _, rfl, by omega, by omega, fun G hG => ?_⟩
      obtain ⟨nG1, nG2, nG3⟩ := dr_new D8 hG
      have e0 : ((1 : Int) + ((t : Nat) : Int)).toNat = 1 + t := by omega
      refine lc_range (lo := 0) (n := ((1 : Int) + ((t : Nat) : Int)).toNat) (fun i Ha => ∃ ks : List Str, ks.length = i ∧ TKeys ks ∧ Ha G = some (.lst (ks.map V.str)) ∧ Dr Ha d g c (m + 2 + 30 * i) ∧ Mv d g H8 Ha)
        ⟨[], rfl, TKeys.nil, upd_same, (D8.same (same_new hG)).mono (by omega), Mv.same (same_new hG)⟩ ?_ ?_
      · rintro i Ha hi ⟨ks, hl, hk, hGa, Da, Ma⟩
        rw [e0] at hi
        refine ⟨rfl, ?_⟩
        refine ⟨_, rfl, d, g, c, _, 0, 7, rfl, Da, by omega, by decide, by decide, fun y Hb y0 y7 hys Db mvb => ?_⟩
        have l12 : (tl digS).length = 12 := by rw [tl_dig]; rfl
        have ej : (tl digS)[ks.length]? = some ((tl digS)[ks.length]'(by omega)) := List.getElem?_eq_getElem (by omega)
        generalize (tl digS)[ks.length]'(by omega) = ch at ej
        refine ⟨_, rfl, digS, _, ch, rfl, rfl, Nat.le_of_lt (small1000 (by decide +kernel)), ?_, ?_⟩
        · rw [show (0 : Int) + ((i : Nat) : Int) = ((ks.length : Nat) : Int) by omega]
          exact atI_nat ej
        have hGb := mvb _ _ nG1 nG2 hGa
        refine ⟨_, _, rfl, rfl, ?_, ?_⟩
        · show y.length + 1 ≤ sizeLine
          rw [sizeLine_eq]; omega
        refine ⟨_, hGb, by rw [List.length_map]; exact small1000 (by omega), ks ++ [y ++ ⟨#[ch]⟩], by rw [List.length_append, hl]; rfl, hk.snoc y7 hys ej, ?_, (Db.upd ⟨nG1, nG2, nG3⟩).mono (by omega), Mv.put (Ma.trans mvb) hG⟩
        rw [upd_same, List.map_append]; rfl
      · rintro Ha ⟨ks, hl, hk, hGa, Da, Ma⟩
        rw [e0] at hl Da
        have Ka := K8.mv D8 Ma
        refine ⟨_, rfl, _, rfl, G, rfl, ⟨_, SqL.at hGa⟩, fun G2 hG2 => ?_⟩
        obtain ⟨n21, n22, n23⟩ := dr_new Da hG2
        have nGG : G ≠ G2 := ne_of_none hGa hG2
        refine lc_list (K := K) (a := G) (xs := ks.map V.str) (fun i Hb => ∃ (vs : List V) (ps : List (Str × Str)), Hb G2 = some (.lst vs) ∧ StA Hb vs (ps.map fun p => PyData.tuple [.str p.1, .str p.2]) ∧ ps.map (·.1) = ks.take i ∧ (∀ p ∈ ps, isN p.2 = true) ∧ Dr Hb d g c (m + 150 + 2 * i) ∧ Mv d g Ha Hb)
          ⟨[], [], upd_same, .nil, rfl, (fun p hp => nomatch hp), (Da.same (same_new hG2)).mono (by omega), Mv.same (same_new hG2)⟩ (fun i Hb _ ⟨_, _, _, _, _, _, _, Mb⟩ => SqL.at (Mb _ _ nG1 nG2 hGa)) ?_ ?_
        · rintro i x Hb hx ⟨vs, ps, hGb, hvs, hks, hpn, Db, Mb⟩
          obtain ⟨key, hkey, rfl⟩ := get_strs hx
          have hi : i < ks.length := (List.getElem?_eq_some_iff.mp hkey).1
          have lps : ps.length = i := by
            have := congrArg List.length hks
            rw [List.length_map, List.length_take] at this
            omega
          have lvs := hvs.at.len
          rw [List.length_map] at lvs
          refine ⟨rfl, ?_⟩
          refine ⟨_, rfl, _, rfl, _, rfl, d, g, c, _, Db, by omega, .inr ⟨k.qn, _, rfl, (Ka.mv Da Mb).hn, Ka.n1, lnm.1, lnm.2, fun x Hc hx Dc mvc => ?_⟩⟩
          obtain ⟨mn, hmn, rfl⟩ := List.mem_map.mp hx
          refine ⟨(by show 2 ≤ sizeLine; decide), fun p hp => ?_⟩
          have sp := same_new (o := .tup [V.str key, V.str mn]) hp
          have hGc := sp _ _ (mvc _ _ n21 n22 hGb)
          refine ⟨vs, hGc, small1000 (by omega), vs ++ [.ref p], ps ++ [(key, mn)], upd_same, ?_, ?_, ?_, ((Dc.same sp).upd ⟨n21, n22, n23⟩).mono (by omega), Mv.put ((Mb.trans mvc).trans (Mv.same sp)) hG2⟩
          · rw [List.map_append]
            exact ((hvs.mv ((MvT.mv Db mvc).trans (MvT.same sp))).app (.cons (St1.tup hp (.cons (.str _) (.cons (.str _) .nil))) .nil)).mv (MvT.put hGc)
          · rw [List.map_append, hks, takes hkey]; rfl
          · intro y hy
            rcases List.mem_append.mp hy with q | q
            · exact hpn y q
            · rw [List.mem_singleton.mp q]; exact KO.ns mn hmn
        · rintro Hb ⟨vs, ps, hGb, hvs, hks, hpn, Db, Mb⟩
          rw [List.length_map] at hks Db
          rw [List.take_length] at hks
          have lps : ps.length = ks.length := by rw [← hks, List.length_map]
          refine ⟨G2, vs, rfl, .inl ⟨SqL.at hGb, fun t5 ht5 => ?_⟩⟩
          have s5 := same_new (o := .tup vs) ht5
          refine ⟨(by show 3 ≤ sizeLine; decide), fun p hp => ?_⟩
          refine fin1 _ _ _ _ (.table (ps := ps) ho (by omega) (by omega) (fun q hq => ?_) (by rw [hks]; exact hk.nd)) (fun x e => ?_) rfl (Db.same (s5.trans (same_new hp))) (by omega) ((Mv.same s7).trans (mv8.trans (Ma.trans (Mb.trans (Mv.same (s5.trans (same_new hp))))))) (St1.tup hp (.cons (.str _) (.cons (.str _) (.cons (St1.tup ht5 hvs) .nil))))
          · have hm : q.1 ∈ ks := by rw [← hks]; exact List.mem_map.mpr ⟨q, hq, rfl⟩
            exact ⟨(hk.ok _ hm).1, (hk.ok _ hm).2, hpn q hq⟩
          · have : bindsD (.tuple [.str "table", .str own, .tuple (ps.map fun p => PyData.tuple [.str p.1, .str p.2])]) = some own := by
              unfold bindsD
              rw [if_pos (show _ ∈ binders by simp [hdW, binders])]
              rfl
            rw [this] at e
            exact (Option.some.inj e).symm
    · have s7 := s6.trans s7
      have K7 := K1.same s7
      have D7 := D1.same s7
      have ln := KO.ln
      refine ⟨_, rfl, _, rfl, _, k.ns.length, rfl, .inl ⟨_, SqL.at K7.hn, by rw [List.length_map]⟩, d, g, c, _, _, rfl, D7, by omega, by omega, by omega, fun b H8 b0 bn D8 mv8 => ?_⟩
      obtain ⟨b, rfl⟩ := Int.eq_ofNat_of_zero_le b0
      have K8 := K7.mv D7 mv8
      refine rot_tr (K := K) (ns := k.ns) (b := b) K8.hn rfl rfl (by omega) fun p3 H9 s9 h9 n9 => ?_
      have D9 := D8.same s9
      have K9 := K8.same s9
      obtain ⟨np1, np2, np3⟩ := dr_new D8 n9
      refine ⟨_, rfl, d, g, c, _, 4, rfl, D9, by omega, by decide, by decide, fun t Ha t0 t4 Da mva => ?_⟩
      obtain ⟨t, rfl⟩ := Int.eq_ofNat_of_zero_le t0
      have Ka := K9.mv D9 mva
      have ha := mva _ _ np1 np2 h9
      refine ⟨_, rfl, p3, _, rfl, SqL.at ha, fun p4 hp4 => ?_⟩
      rw [cutV_to, ← List.map_take]
      have sb := same_new (o := .lst (((rot b k.ns).take t).map V.str)) hp4
      have Db := Da.same sb
      have Kb := Ka.same sb
      refine ⟨_, rfl, k.kd, _, rfl, dput_of Kb.di (small3 _ _ _) (kit_put _ _ _ _), ?_⟩
      have Kc := Kb.put 6
      have Dc := Db.kit Kb 6
      have n4k : p4 ≠ k.kd := fun e => by rw [e, Ka.di] at hp4; cases hp4
      refine ⟨_, rfl, _, rfl, p4, _, rfl, .inl ⟨SqL.at (by rw [upd_ne n4k]; exact upd_same), fun t5 ht5 => ?_⟩⟩
      have sd := same_new (o := .tup (((rot b k.ns).take t).map V.str)) ht5
      refine ⟨_, rfl, _, rfl, d, g, c, _, k, 6, rfl, by decide, by decide, Dc.same sd, Kc.same sd, KO, by omega, by omega, by omega, fun rs v He nb hne hlen hrs b1 b2 b3 hli De Ke Me hv => ⟨(by show 4 ≤ sizeLine; decide), fun p hp => ?_⟩⟩
      have b4 := b3 (by decide)
      obtain ⟨r1, r2, r3⟩ := rot_ok (b := b) (t := t) KO.nd KO.ns
      refine kk _ _ _ _ (.def_ ho (by rw [r3]; omega) r2 r1 ⟨rs, rfl, hne, hrs⟩) (fun x e => ?_) ?_ ((De.same (same_new hp)).mono (by omega)) (Ke.same (same_new hp)) ?_ (St1.tup hp (.cons (.str _) (.cons (.str _) (.cons ((St1.tup ht5 (StA.ofStrs _)).mv (MvT.mv3 (Dc.same sd) (Kc.same sd) Me)) (.cons hv .nil)))))
      · have : bindsD (.tuple [.str "def", .str own, .tuple (((rot b k.ns).take t).map PyData.str), .tuple rs]) = some own := by
          unfold bindsD
          rw [if_pos (show _ ∈ binders by simp [hdW, binders])]
          rfl
        rw [this] at e
        exact (Option.some.inj e).symm
      · show (blockL 4 1 rs).length + 1 ≤ 21
        have : (blockL 4 1 rs).length ≤ 2 * nb := hli
        omega
      · exact ((Mv3.of mv1).trans ((Mv3.same s7).trans ((Mv3.of mv8).trans ((Mv3.same s9).trans ((Mv3.of mva).trans ((Mv3.same sb).trans Mv3.kit)))))).trans ((Mv3.same sd).trans (Me.trans (.same (same_new hp))))
end
end Sn
namespace Sn
open PySem PySem.Spec PyProof.Rows L2 TL
section
variable {P : Program} {w : World} {K : PySem.W.Frag} {mg : Str → Option Value} {base : Heap}
theorem isW_of {z : Str} (hl : z.length ≤ 8) (hs : ∀ x ∈ tl z, x ∈ tl sgnS) : isW z = true := by
  unfold isW
  simp only [Bool.and_eq_true, decide_eq_true_eq, List.all_eq_true]
  exact ⟨hl, hs⟩
/-- a drawn tree -/
def spDTree : Sp := fun vs H Q _ => ∃ (d g c : Addr) (m : Nat), vs = [.ref d] ∧ Dr H d g c m ∧ m ≤ 700000000 ∧
  ∀ (ds : List PyData) (v : V) (H' : Hp), TreeOk ds → ds.length ≤ 5 → (treeL ds).length ≤ 105 → Dr H' d g c (m + 8000) → Mv d g H H' → St1 H' v (.tuple ds) → Q v H'
theorem ok_dtree (T : Txt K mg) : FnOk P w K mg base CX0 15 T.f_law_tree T.fd_law_tree ["_law_state"] spDTree := by
  have GT : FnOk P w K mg base CX0 2 T.f_law_take T.fd_law_take ["_law_state", "_law_size"] spTake := ok_take T
  have GN : FnOk P w K mg base CX0 6 T.f_law_names T.fd_law_names ["_law_state", "_law_many"] spDNames := ok_dnames T
  have GW : FnOk P w K mg base CX0 4 T.f_law_any_word T.fd_law_any_word ["_law_state", "_law_least", "_law_most"] spAnyW := ok_any_word T
  have GI : FnOk P w K mg base CX0 14 T.f_law_item T.fd_law_item ["_law_state", "_law_kit", "_law_own"] spDItem := ok_ditem T
  refine T.F_law_tree.ok sc_law_tree (fun vs H Q E h => ?_) (fun cdv A outer s H vs Q E hr h => ?_)
  · obtain ⟨d, g, c, m, rfl, _⟩ := h
    rfl
  · obtain ⟨d, g, c, m, rfl, D, hm, kk⟩ := h
    refine ⟨_, (pss_cons (ps_set (i := 1) sc_law_tree.nd rfl (Or.inl rfl) (pe_call (ok_dnames T) (hr.mono (by decide)) rfl T.g_law_names T.F_law_names.kp T.b_law_names .nil pass0 (pa_cons (pv 0) (pa_cons pe_int pa_nil))))
      (pss_cons (ps_set (i := 2) sc_law_tree.nd rfl (Or.inl rfl) (pe_lst (pa_cons pe_str (pa_cons (pe_call (ok_any_word T) (hr.mono (by decide)) rfl T.g_law_any_word T.F_law_any_word.kp T.b_law_any_word .nil pass0 (pa_cons (pv 0) (pa_cons pe_int (pa_cons pe_int pa_nil)))) (pa_cons (pe_call (ok_any_word T) (hr.mono (by decide)) rfl T.g_law_any_word T.F_law_any_word.kp T.b_law_any_word .nil pass0 (pa_cons (pv 0) (pa_cons pe_int (pa_cons pe_int pa_nil)))) (pa_cons pe_str (pa_cons (pe_ix (ix_listK (K := K)) (pv 1) pe_int (fun _ _ => rfl)) pa_nil)))))))
      (pss_cons (ps_asg (pe_tup (pa_cons (pe_disp (pps_cons pe_str (pv 1) (pps_cons pe_str (pv 2) (pps_cons pe_str pe_int pps_nil))) (by rfl) (by rfl) (fun z => by cases z) (by decide)) (pa_cons (pe_call (ok_dnames T) (hr.mono (by decide)) rfl T.g_law_names T.F_law_names.kp T.b_law_names .nil pass0 (pa_cons (pv 0) (pa_cons pe_int pa_nil))) pa_nil))) (pg_tup rfl (pgs_cons (pg_name (i := 3) sc_law_tree.nd rfl (Or.inr rfl)) (pgs_cons (pg_name (i := 4) sc_law_tree.nd rfl (Or.inr rfl)) pgs_nil))))
      (pss_one (ps_ret (pe_callTy call_tuple_of (by rfl) T.z_tuple (by decide +kernel) (pa_cons (pe_lc (own := [("_law_k", 5)]) (g := gName 5) (by rfl) sc_law_tree.nd (pi_range1 (by rfl) T.z_range (pa_cons (pe_call (ok_take T) (hr.mono (by decide)) rfl T.g_law_take T.F_law_take.kp T.b_law_take .nil pass0 (pa_cons (pv 0) (pa_cons pe_int pa_nil))) pa_nil)) (blkOk_by (own := [("_law_k", 5)]) (N := n_law_tree) (sc := defScope s_law_tree) (by decide +kernel)) (fun _ _ _ _ _ => (pg_name (i := 5) sc_law_tree.nd rfl (Or.inl rfl))) (fun _ _ _ _ _ => pts_nil) (fun _ _ _ _ _ => (pe_call (ok_ditem T) (hr.mono (by decide)) rfl T.g_law_item T.F_law_item.kp T.b_law_item .nil pass0 (pa_cons (pv 0) (pa_cons (pv 3) (pa_cons (pe_ix (ix_listK (K := K)) (pv 4) (pv 5) (fun _ _ => rfl)) pa_nil)))))) pa_nil))))))), ?_⟩
    refine ⟨_, rfl, d, g, c, m, 8, rfl, D, by omega, by decide, fun q ns H1 hq0 ln nd hN hq D1 mv1 => ?_⟩
    obtain ⟨nq1, nq2, nq3⟩ := dr_new D hq0
    refine ⟨_, rfl, d, g, c, _, 1, 8, rfl, D1, by omega, by decide, by decide, fun z1 H2 z1a z1b z1s D2 mv2 => ?_⟩
    refine ⟨_, rfl, d, g, c, _, 1, 3, rfl, D2, by omega, by decide, by decide, fun z2 H3 z2a z2b z2s D3 mv3 => ?_⟩
    have hq3 := mv3 _ _ nq1 nq2 (mv2 _ _ nq1 nq2 hq)
    obtain ⟨n0, nr, rfl⟩ : ∃ n0 nr, ns = n0 :: nr := by
      cases ns with
      | nil => simp at ln
      | cons a b => exact ⟨a, b, rfl⟩
    refine ⟨_, rfl, q, _, _, .str n0, rfl, rfl, SqL.at hq3, atI_nat (j := 0) rfl, (by show 5 ≤ sizeLine; decide), fun L hL => ?_⟩
    have sL := same_new (o := .lst [V.str "", V.str z1, V.str z2, V.str "a", V.str n0]) hL
    have D4 := D3.same sL
    obtain ⟨nL1, nL2, nL3⟩ := dr_new D3 hL
    have hq4 := sL _ _ hq3
    intro kd hkd
    have hkd1 : (upd H3 L (.lst [V.str "", V.str z1, V.str z2, V.str "a", V.str n0])) kd = none := hkd
    have s5 := same_new (o := .dK []) hkd1
    obtain ⟨nk1, nk2, nk3⟩ := dr_new D4 hkd1
    refine ⟨_, rfl, _, rfl, upd_same, kitK q L 0, rfl, by show 3 ≤ 15; decide, ?_⟩
    have em : mergeK [] (kitK q L 0) = kitK q L 0 := by kernel_rfl
    rw [em]
    generalize hH5 : upd (upd (upd H3 L (.lst [V.str "", V.str z1, V.str z2, V.str "a", V.str n0])) kd (.dK [])) kd (.dK (kitK q L 0)) = H5
    have s6 : Same (upd H3 L (.lst [V.str "", V.str z1, V.str z2, V.str "a", V.str n0])) H5 := fun b o e => by
      rw [← hH5, upd_ne (ne_of_none e hkd1)]
      exact s5 _ _ e
    have D5 := D4.same s6
    have K5 : Kit H5 d g ⟨kd, q, L, n0 :: nr, [("" : Str), z1, z2, "a", n0]⟩ 0 := ⟨by rw [← hH5]; exact upd_same, s6 _ _ hq4, s6 _ _ upd_same, nk1, nq2, nL2⟩
    have KO : KOk ⟨kd, q, L, n0 :: nr, [("" : Str), z1, z2, "a", n0]⟩ := by
      refine ⟨by show 0 < (n0 :: nr).length ∧ _ ≤ _; rw [ln]; decide, by show 0 < 5 ∧ 5 ≤ 100; decide, nd, hN, fun x hx => ?_⟩
      have hx : x ∈ [("" : Str), z1, z2, "a", n0] := hx
      simp only [List.mem_cons, List.not_mem_nil, or_false] at hx
      rcases hx with rfl | rfl | rfl | rfl | rfl
      · decide +kernel
      · exact isW_of z1b z1s
      · exact isW_of (by omega) z2s
      · decide +kernel
      · exact isN_w (hN _ (by simp))
    have M5 : Mv d g H H5 := mv1.trans (mv2.trans (mv3.trans (Mv.same (sL.trans s6))))
    refine ⟨_, rfl, d, g, c, _, 5, rfl, D5, by omega, by decide, fun qo own H6 hqo0 lo ndo hNo hqo D6 mv6 => ?_⟩
    obtain ⟨no1, no2, no3⟩ := dr_new D5 hqo0
    have K6 := K5.mv D5 mv6
    have hkd0 : H kd = none := by
      cases e : H kd with
      | none => rfl
      | some o =>
        have e2 := sL _ _ (mv3 _ _ nk1 nk2 (mv2 _ _ nk1 nk2 (mv1 _ _ nk1 nk2 e)))
        rw [hkd1] at e2
        cases e2
    refine ⟨(by show 2 ≤ sizeLine; decide), fun p0 hp0 => ⟨p0, _, rfl, .inl (.inl upd_same), rfl, _, _, rfl, _, _, rfl, rfl, ?_⟩⟩
    have s7 := same_new (o := .tup [V.ref kd, V.ref qo]) hp0
    have D7 := D6.same s7
    have K7 := K6.same s7
    have hqo7 := s7 _ _ hqo
    have M7 : Mv d g H _ := M5.trans (mv6.trans (Mv.same s7))
    generalize upd H6 p0 (.tup [V.ref kd, V.ref qo]) = H7 at D7 K7 hqo7 M7
    refine ⟨_, rfl, d, g, c, _, 6, rfl, D7, by omega, by decide, by decide, fun t H8 t0 t6 D8 mv8 => ?_⟩
    obtain ⟨t, rfl⟩ := Int.eq_ofNat_of_zero_le t0
    have K8 := K7.mv D7 mv8
    have hqo8 := mv8 _ _ no1 no2 hqo7
    have nqk : qo ≠ kd := ne_of hqo8 K8.di (by intro z; cases z)
    refine ⟨_, rfl, by omega, by omega, fun G hG => ?_⟩
    obtain ⟨nG1, nG2, nG3⟩ := dr_new D8 hG
    have nGk : G ≠ kd := fun e => by rw [e, K8.di] at hG; cases hG
    have nGq : G ≠ qo := fun e => by rw [e, hqo8] at hG; cases hG
    refine lc_range (lo := 0) (n := t) (fun i Ha => ∃ (vs : List V) (ds : List PyData) (l : Int), Ha G = some (.lst vs) ∧ StA Ha vs ds ∧ ds.length = i ∧ (∀ x ∈ ds, ItemOk x) ∧ (ds.filterMap bindsD).Nodup ∧ (∀ x ∈ ds.filterMap bindsD, x ∈ own.take i) ∧ (treeL ds).length ≤ 21 * i ∧ Dr Ha d g c (m + 700 + 1200 * i) ∧ Kit Ha d g ⟨kd, q, L, n0 :: nr, [("" : Str), z1, z2, "a", n0]⟩ l ∧ Mv3 d g kd H8 Ha)
      ⟨[], [], 0, upd_same, .nil, rfl, (fun x hx => nomatch hx), .nil, (fun x hx => nomatch hx), Nat.le_refl _, (D8.same (same_new hG)).mono (by omega), K8.same (same_new hG), .same (same_new hG)⟩ ?_ ?_
    · rintro i Ha hi ⟨vs, ds, l, hGa, hvs, hl, hit, hnd, hsub, hli, Da, Ka, Ma⟩
      have lvs := hvs.at.len
      have hqa := Ma _ _ no1 no2 nqk hqo8
      have hio : i < own.length := by omega
      obtain ⟨ow, how⟩ : ∃ ow, own[i]? = some ow := ⟨_, List.getElem?_eq_getElem hio⟩
      refine ⟨rfl, ?_⟩
      refine ⟨_, rfl, _, rfl, _, rfl, _, rfl, qo, _, _, .str ow, rfl, rfl, SqL.at hqa, ?_, ?_⟩
      · rw [show (0 : Int) + ((i : Nat) : Int) = ((i : Nat) : Int) by omega]
        exact atI_nat (by rw [List.getElem?_map, how]; rfl)
      refine ⟨d, g, c, _, _, _, ow, rfl, Da, Ka, KO, hNo ow (List.mem_of_getElem? how), by omega, fun it v Hb l' hi2 hb2 hl2 Db Kb Mb hv => ?_⟩
      have hGb := Mb _ _ nG1 nG2 nGk hGa
      have hG0 : H8 G = none := hG
      refine ⟨vs, hGb, small1000 (by omega), vs ++ [v], ds ++ [it], l', upd_same, ?_, by rw [List.length_append, hl]; rfl, ?_, ?_, ?_, ?_, (Db.upd ⟨nG1, nG2, nG3⟩).mono (by omega), ?_, Mv3.put (Ma.trans Mb) hG0⟩
      · exact ((hvs.mv (MvT.mv3 Da Ka Mb)).app (.cons hv .nil)).mv (MvT.put hGb)
      · intro y hy
        rcases List.mem_append.mp hy with h | h
        · exact hit y h
        · rw [List.mem_singleton.mp h]; exact hi2
      · rw [List.filterMap_append]
        cases eb : bindsD it with
        | none =>
          rw [show [it].filterMap bindsD = [] by rw [List.filterMap_cons, eb]; rfl, List.append_nil]
          exact hnd
        | some x =>
          rw [show [it].filterMap bindsD = [x] by rw [List.filterMap_cons, eb]; rfl]
          refine List.nodup_append.mpr ⟨hnd, by simp, fun a ha b hb e => ?_⟩
          rw [List.mem_singleton.mp hb, hb2 x eb] at e
          rw [e] at ha
          have ha2 := hsub ow ha
          obtain ⟨j, hj, ej⟩ := List.getElem_of_mem ha2
          rw [List.length_take] at hj
          rw [List.getElem_take] at ej
          have : own[j]? = own[i]? := by rw [how, List.getElem?_eq_getElem (by omega), ej]
          have := (List.getElem?_inj (by omega) ndo).mp this
          omega
      · intro x hx
        rw [List.filterMap_append] at hx
        rw [takes how]
        rcases List.mem_append.mp hx with h | h
        · exact List.mem_append.mpr (.inl (hsub x h))
        · obtain ⟨y, hy, e⟩ := List.mem_filterMap.mp h
          rw [List.mem_singleton.mp hy] at e
          rw [hb2 x e]
          exact List.mem_append.mpr (.inr (by simp))
      · unfold treeL at hli ⊢
        rw [List.flatMap_append, List.length_append]
        have : ([it].flatMap itemL).length = (itemL it).length := by simp
        omega
      · have : ∀ b, b ≠ G → ∀ o, Hb b = some o → upd Hb G (.lst (vs ++ [v])) b = some o := fun b hb o e => by rw [upd_ne hb]; exact e
        refine ⟨this _ nGk.symm _ Kb.di, this _ (fun e => ?_) _ Kb.hn, this _ (fun e => ?_) _ Kb.hw, Kb.n0, Kb.n1, Kb.n2⟩
        · have a := K8.hn
          rw [show (⟨kd, q, L, n0 :: nr, [("" : Str), z1, z2, "a", n0]⟩ : KA).qn = G from e, hG] at a
          cases a
        · have a := K8.hw
          rw [show (⟨kd, q, L, n0 :: nr, [("" : Str), z1, z2, "a", n0]⟩ : KA).qw = G from e, hG] at a
          cases a
    · rintro Ha ⟨vs, ds, l, hGa, hvs, hl, hit, hnd, hsub, hli, Da, Ka, Ma⟩
      refine ⟨G, vs, rfl, .inl ⟨SqL.at hGa, fun t5 ht5 => ?_⟩⟩
      have st := same_new (o := .tup vs) ht5
      refine kk ds _ _ ⟨hit, hnd⟩ (by omega) (by omega) ((Da.same st).mono (by omega)) (fun b o h1 h2 e => ?_) (St1.tup ht5 hvs)
      have nb : b ≠ kd := ne_of_none e hkd0
      exact st _ _ (Ma _ _ h1 h2 nb (mv8 _ _ h1 h2 (M7 _ _ h1 h2 e)))
end
end Sn
namespace Sn
open PySem PySem.Spec PyProof.Rows L2
section
variable {K : PySem.W.Frag} {A : Amb} {W : Addr → Prop} {H : Hp}
def tupsOnly (H : Hp) : Hp := fun a => match H a with
  | some (.tup xs) => some (.tup xs)
  | _ => none
theorem tupsOnly_at {a : Addr} {o : HO} (h : tupsOnly H a = some o) : ∃ xs, o = .tup xs ∧ H a = some (.tup xs) := by
  unfold tupsOnly at h
  split at h
  · rename_i xs e
    cases h
    exact ⟨xs, rfl, e⟩
  · cases h
mutual
theorem Dh.dwT : ∀ {v : V} {d : D}, Dh (tupsOnly H) v d → Dw K A W H v d
  | _, _, .non => .non
  | _, _, .bl b => .bl b
  | _, _, .int i => .int i
  | _, _, .str z => .str z
  | _, _, .lst h _ => by obtain ⟨_, e, _⟩ := tupsOnly_at h; cases e
  | _, _, .tup h a => by
    obtain ⟨_, e, h2⟩ := tupsOnly_at h
    cases e
    exact .tup (.inl (.inl h2)) (DhAll.dwT a)
  | _, _, .dk h => by obtain ⟨_, e, _⟩ := tupsOnly_at h; cases e
theorem DhAll.dwT : ∀ {vs : List V} {ds : List D}, DhAll (tupsOnly H) vs ds → DwA K A W H vs ds
  | _, _, .nil => .nil
  | _, _, .cons h a => .cons (Dh.dwT h) (DhAll.dwT a)
end
theorem St1.dw {v : V} {d : D} (h : St1 H v d) : Dw K A W H v d := Dh.dwT (h (tupsOnly H) fun a xs e => by unfold tupsOnly; rw [e])
end
end Sn
namespace Sn
open PySem PySem.Spec PyProof.Rows L2 TL
theorem ll_K05h_0 : ("" : Str).length = 0 := by decide +kernel
theorem ll_K05h_1 : ("a" : Str).length = 1 := by decide +kernel
theorem ll_K05h_2 : ("ask" : Str).length = 3 := by decide +kernel
theorem ll_K05h_3 : ("b" : Str).length = 1 := by decide +kernel
theorem ll_K05h_4 : ("def" : Str).length = 3 := by decide +kernel
theorem ll_K05h_5 : ("entry" : Str).length = 5 := by decide +kernel
theorem ll_K05h_6 : ("entry a" : Str).length = 7 := by decide +kernel
theorem ll_K05h_7 : ("fail" : Str).length = 4 := by decide +kernel
theorem ll_K05h_8 : ("name" : Str).length = 4 := by decide +kernel
theorem ll_K05h_9 : ("table" : Str).length = 5 := by decide +kernel
theorem ll_K05h_10 : ("text" : Str).length = 4 := by decide +kernel
local macro_rules | `(tactic| infer_instance) => `(tactic| simp only [ty_tt, ty_ts, ty_ti, ty_tl, ty_ss, ty_st])
local macro_rules | `(tactic| infer_instance) => `(tactic| assumption)
local macro_rules | `(tactic| infer_instance) => `(tactic| dsimp only [List.set, wipeE])
local macro_rules | `(tactic| infer_instance) => `(tactic| ((with_reducible refine i_pg ?_ ?_); · assumption))
local macro_rules | `(tactic| infer_instance) => `(tactic| ((with_reducible refine i_askW ?_ ?_); · assumption))
local macro_rules | `(tactic| infer_instance) => `(tactic| ((with_reducible refine i_askN ?_ ?_); · assumption))
local macro_rules | `(tactic| infer_instance) => `(tactic| ((with_reducible refine i_okT ?_ ?_); · assumption))
local macro_rules | `(tactic| infer_instance) => `(tactic| ((with_reducible refine i_cStrF ?_ ?_); · decide +kernel))
local macro_rules | `(tactic| infer_instance) => `(tactic| ((with_reducible refine i_cStrT ?_ ?_); · rfl))
local macro_rules | `(tactic| infer_instance) => `(tactic| ((with_reducible refine i_cGF ?_ ?_); · rfl))
local macro_rules | `(tactic| infer_instance) => `(tactic| ((with_reducible refine i_cGT ?_ ?_); · rfl))
local macro_rules | `(tactic| infer_instance) => `(tactic| ((with_reducible refine i_cIntF ?_ ?_); · rfl))
local macro_rules | `(tactic| infer_instance) => `(tactic| ((with_reducible refine i_cIntT ?_ ?_); · rfl))
local macro_rules | `(tactic| infer_instance) => `(tactic| ((with_reducible apply i_appPop); (focus rfl); (focus rfl)))
local macro_rules | `(tactic| infer_instance) => `(tactic| ((with_reducible apply i_insert); · rfl))
local macro_rules | `(tactic| infer_instance) => `(tactic| ((with_reducible refine i_look2F ?_ ?_); · decide +kernel))
local macro_rules | `(tactic| infer_instance) => `(tactic| ((with_reducible refine i_look2T ?_ ?_); · rfl))
local macro_rules | `(tactic| infer_instance) => `(tactic| ((with_reducible refine i_lookF ?_ ?_); · decide +kernel))
local macro_rules | `(tactic| infer_instance) => `(tactic| ((with_reducible refine i_lookT ?_ ?_); · rfl))
local macro_rules | `(tactic| infer_instance) => `(tactic| ((with_reducible refine i_exdict ?_ ?_); · rfl))
local macro_rules | `(tactic| infer_instance) => `(tactic| ((with_reducible refine i_dget2 ?_ ?_); · rfl))
local macro_rules | `(tactic| infer_instance) => `(tactic| ((with_reducible refine i_dget ?_ ?_); · rfl))
local macro_rules | `(tactic| infer_instance) => `(tactic| ((with_reducible refine i_dispQ ?_ ?_); · decide +kernel))
local macro_rules | `(tactic| infer_instance) => `(tactic| ((with_reducible refine i_le ?_ ?_); · (simp only [List.length_append, List.length_map, List.length_replicate, List.length_cons, List.length_nil, sizeLine_eq]; omega)))
local macro_rules | `(tactic| infer_instance) => `(tactic| ((with_reducible refine i_lt ?_ ?_); · (simp only [List.length_append, List.length_map, List.length_replicate, List.length_cons, List.length_nil, sizeLine_eq]; omega)))
local macro_rules | `(tactic| infer_instance) => `(tactic| ((with_reducible refine i_addL ?_ ?_); · (simp only [List.length_append, List.length_map, List.length_replicate, List.length_cons, List.length_nil, sizeLine_eq]; omega)))
local macro_rules | `(tactic| infer_instance) => `(tactic| ((with_reducible refine i_addS ?_ ?_); · (simp only [len_app, sizeLine_eq, ll_emp, ll_K05h_0, ll_K05h_1, ll_K05h_2, ll_K05h_3, ll_K05h_4, ll_K05h_5, ll_K05h_6, ll_K05h_7, ll_K05h_8, ll_K05h_9, ll_K05h_10]; omega)))
local macro_rules | `(tactic| infer_instance) => `(tactic| ((with_reducible refine i_fmtS ?_ ?_); · (simp only [len_app, sizeLine_eq, ll_emp, ll_K05h_0, ll_K05h_1, ll_K05h_2, ll_K05h_3, ll_K05h_4, ll_K05h_5, ll_K05h_6, ll_K05h_7, ll_K05h_8, ll_K05h_9, ll_K05h_10]; omega)))
local macro_rules | `(tactic| infer_instance) => `(tactic| ((with_reducible refine i_le ?_ ?_); · (simp only [len_app, sizeLine_eq, ll_emp, ll_K05h_0, ll_K05h_1, ll_K05h_2, ll_K05h_3, ll_K05h_4, ll_K05h_5, ll_K05h_6, ll_K05h_7, ll_K05h_8, ll_K05h_9, ll_K05h_10]; omega)))
local macro_rules | `(tactic| infer_instance) => `(tactic| ((with_reducible apply i_ty); · rfl))
local macro_rules | `(tactic| infer_instance) => `(tactic| ((with_reducible refine i_ninTf ?_ ?_ ?_); (focus rfl); (focus (decide +kernel))))
local macro_rules | `(tactic| infer_instance) => `(tactic| ((with_reducible refine i_ninTt ?_ ?_ ?_); (focus rfl); (focus (decide +kernel))))
local macro_rules | `(tactic| infer_instance) => `(tactic| ((with_reducible refine i_inLf ?_ ?_ ?_); (focus rfl); (focus (decide +kernel))))
local macro_rules | `(tactic| infer_instance) => `(tactic| ((with_reducible refine i_inLt ?_ ?_ ?_); (focus rfl); (focus (decide +kernel))))
local macro_rules | `(tactic| infer_instance) => `(tactic| ((with_reducible refine i_inTf ?_ ?_ ?_); (focus rfl); (focus (decide +kernel))))
local macro_rules | `(tactic| infer_instance) => `(tactic| ((with_reducible refine i_inTt ?_ ?_ ?_); (focus rfl); (focus (decide +kernel))))
local macro_rules | `(tactic| infer_instance) => `(tactic| ((with_reducible apply i_extend); · rfl))
local macro_rules | `(tactic| infer_instance) => `(tactic| ((with_reducible apply i_append); · rfl))
local macro_rules | `(tactic| infer_instance) => `(tactic| ((with_reducible refine i_notNf ?_ ?_); · rfl))
local macro_rules | `(tactic| infer_instance) => `(tactic| ((with_reducible refine i_notNt ?_ ?_); · rfl))
local macro_rules | `(tactic| infer_instance) => `(tactic| ((with_reducible refine i_isNf ?_ ?_); · rfl))
local macro_rules | `(tactic| infer_instance) => `(tactic| ((with_reducible refine i_isNt ?_ ?_); · rfl))
local macro_rules | `(tactic| infer_instance) => `(tactic| ((with_reducible apply i_ixL); · rfl))
local macro_rules | `(tactic| infer_instance) => `(tactic| ((with_reducible apply i_ixT); · rfl))
local macro_rules | `(tactic| infer_instance) => `(tactic| ((with_reducible refine i_neF ?_ ?_); · decide +kernel))
local macro_rules | `(tactic| infer_instance) => `(tactic| ((with_reducible refine i_neT ?_ ?_); · rfl))
local macro_rules | `(tactic| infer_instance) => `(tactic| ((with_reducible refine i_neF ?_ ?_); · assumption))
local macro_rules | `(tactic| infer_instance) => `(tactic| ((with_reducible refine i_eqF ?_ ?_); · assumption))
local macro_rules | `(tactic| infer_instance) => `(tactic| ((with_reducible refine i_eqF ?_ ?_); · decide +kernel))
local macro_rules | `(tactic| infer_instance) => `(tactic| ((with_reducible refine i_eqT ?_ ?_); · rfl))
local macro_rules | `(tactic| infer_instance) => `(tactic| ((with_reducible refine i_dNF ?_ ?_); (focus first | decide | omega | rfl | (simp only [List.length_cons, List.length_nil]; omega))))
local macro_rules | `(tactic| infer_instance) => `(tactic| ((with_reducible refine i_dNT ?_ ?_); (focus first | decide | omega | rfl | (simp only [List.length_cons, List.length_nil]; omega))))
local macro_rules | `(tactic| infer_instance) => `(tactic| ((with_reducible refine i_dF ?_ ?_); (focus first | decide | omega | rfl | (simp only [List.length_cons, List.length_nil]; omega))))
local macro_rules | `(tactic| infer_instance) => `(tactic| ((with_reducible refine i_dT ?_ ?_); (focus first | decide | omega | rfl | (simp only [List.length_cons, List.length_nil]; omega))))
local macro_rules | `(tactic| infer_instance) => `(tactic| ((with_reducible apply i_var); · rfl))
local macro_rules | `(tactic| infer_instance) => `(tactic| (with_reducible refine St.go ?_))
def vfTree5 : VF := fun ds r Q => ds = [dSt] ∧ r.m ≤ 700000000 ∧ ∀ ts, TreeOk ts → ts.length ≤ 5 → (treeL ts).length ≤ 105 → Q (.tuple ts) { r with m := r.m + 8000 }
theorem pl_str {z : Str} (h : z.length ≤ 1000) : Pl (.str z) := .str h
theorem pl_plain5 : Pl plainD := .tup (by simp) (by intro y hy; rw [List.mem_singleton.mp hy]; exact .tup (by simp) (by intro y hy; simp only [List.mem_cons, List.not_mem_nil, or_false] at hy; rcases hy with rfl; exact pl_str (by decide +kernel)))
theorem pl_expr5 : Pl exprD := .tup (by simp) (by intro y hy; rw [List.mem_singleton.mp hy]; exact .tup (by simp) (by intro y hy; simp only [List.mem_cons, List.not_mem_nil, or_false] at hy; rcases hy with rfl | rfl; exact pl_str (by decide +kernel); exact pl_str (by decide +kernel)))
theorem dp_pl {j : Nat} {b : D} (h : Dp5 j b) : Pl b := by
  induction h with
  | zero => exact pl_plain5
  | if1 _ ih => exact .tup (by simp) (by intro y hy; rw [List.mem_singleton.mp hy]; exact .tup (by simp) (by intro y hy; simp only [List.mem_cons, List.not_mem_nil, or_false] at hy; rcases hy with rfl | rfl | rfl | rfl | rfl; exact pl_str (by decide +kernel); exact pl_expr5; exact pl_str (by decide +kernel); exact pl_plain5; exact ih))
  | if0 _ ih => exact .tup (by simp) (by intro y hy; rw [List.mem_singleton.mp hy]; exact .tup (by simp) (by intro y hy; simp only [List.mem_cons, List.not_mem_nil, or_false] at hy; rcases hy with rfl | rfl | rfl | rfl | rfl; exact pl_str (by decide +kernel); exact pl_expr5; exact pl_str (by decide +kernel); exact ih; exact .tup (by simp) (by simp)))
  | there1 _ ih => exact .tup (by simp) (by intro y hy; rw [List.mem_singleton.mp hy]; exact .tup (by simp) (by intro y hy; simp only [List.mem_cons, List.not_mem_nil, or_false] at hy; rcases hy with rfl | rfl | rfl | rfl; exact pl_str (by decide +kernel); exact pl_expr5; exact pl_plain5; exact ih))
  | there0 _ ih => exact .tup (by simp) (by intro y hy; rw [List.mem_singleton.mp hy]; exact .tup (by simp) (by intro y hy; simp only [List.mem_cons, List.not_mem_nil, or_false] at hy; rcases hy with rfl | rfl | rfl | rfl; exact pl_str (by decide +kernel); exact pl_expr5; exact ih; exact .tup (by simp) (by simp)))
  | try1 _ ih => exact .tup (by simp) (by intro y hy; rw [List.mem_singleton.mp hy]; exact .tup (by simp) (by intro y hy; simp only [List.mem_cons, List.not_mem_nil, or_false] at hy; rcases hy with rfl | rfl | rfl; exact pl_str (by decide +kernel); exact pl_plain5; exact ih))
  | try0 _ ih => exact .tup (by simp) (by intro y hy; rw [List.mem_singleton.mp hy]; exact .tup (by simp) (by intro y hy; simp only [List.mem_cons, List.not_mem_nil, or_false] at hy; rcases hy with rfl | rfl | rfl; exact pl_str (by decide +kernel); exact ih; exact pl_plain5))
  | each _ ih => exact .tup (by simp) (by intro y hy; rw [List.mem_singleton.mp hy]; exact .tup (by simp) (by intro y hy; simp only [List.mem_cons, List.not_mem_nil, or_false] at hy; rcases hy with rfl | rfl | rfl | rfl; exact pl_str (by decide +kernel); exact pl_str (by decide +kernel); exact pl_str (by decide +kernel); exact ih))
theorem deep_pl {j : Nat} {b : D} (h : Dp5 j b) : Pl (deepD b) := .tup (by simp) (by intro y hy; rw [List.mem_singleton.mp hy]; exact .tup (by simp) (by intro y hy; simp only [List.mem_cons, List.not_mem_nil, or_false] at hy; rcases hy with rfl | rfl | rfl | rfl; exact pl_str (by decide +kernel); exact pl_str (by decide +kernel); exact .tup (by simp) (by simp); exact dp_pl h))
def exL5 : List D := [.tuple [.str "fail"], .tuple [.tuple [.str "fail"]], .tuple [.tuple [.str "name", .str "a"]], .tuple [.tuple [.str "text", .str ""]], .tuple [.str "ask", .str "a"], .tuple [.tuple [.str "a", .str "b"]]]
theorem i_reprB5 {b : Bool} {R : D → Prop} (q : R (.str (PyData.bool b).shown)) : dRepr [.bool b] R := ⟨_, rfl, by cases b <;> decide +kernel, by cases b <;> decide +kernel, by cases b <;> decide +kernel, by rw [sizeLine_eq]; cases b <;> decide +kernel, q⟩
theorem i_lenScr5 {v : VT} {ρ : En} {r : Rs} {Q : D → Rs → Prop} (h : v ρ r fun d r1 => d = dScr ∧ Q (.int r1.sl) r1) : vLenScr v ρ r Q := h
theorem i_min25 {R : D → Prop} {i j : Int} (q : R (.int (if j < i then j else i))) : dMin2 [.int i, .int j] R := q
section
variable {P : Program} {w : World} {K : PySem.W.Frag} {mg : Str → Option Value} {base : Heap}
theorem vok_tree (T : Txt K mg) : FnOk P w K mg base CX0 15 T.f_law_tree T.fd_law_tree ["_law_state"] (spV K mF vfTree5) := (ok_dtree T).imp fun vs H Q E h => by
  obtain ⟨A, W, ds, r, Q0, R, hv, ⟨rfl, hm, q⟩, k⟩ := h
  cases hv with
  | cons h2 hv =>
    cases hv
    obtain rfl := h2.stIs
    exact ⟨A.d, A.g, A.c, r.m, rfl, R.dr, hm, fun ts v H' h1 h5 hl D mv hv => k _ _ (q ts h1 h5 hl) _ H' W (ext_mv R D mv) (res_mv R D mv) hv.dw⟩
theorem kb_istree (T : Txt K mg) : KBinds K T.fd_is_tree ["value"] ["value"] kwG kwV := by
  obtain ⟨oc, od, kV, dc, pm, an, cd, ct, sl, e, lk, hcd⟩ := T.F_is_tree.ex
  rw [e]
  exact ⟨fun s us ws _ hl => match us, ws, hl with | [], [_], _ => .of_eq rfl | [_], [], _ => .of_eq rfl, fun a b => a.append b⟩
def spLaw (K : PySem.W.Frag) : Sp := fun vs H Q _ => ∃ (a : Addr) (ns : List Int), vs = [.ref a] ∧ SqL K H a (ns.map V.int) ∧ ns.length ≤ 63 ∧ ∀ H', Q (.bl true) H'
theorem ok_law (T : Txt K mg) : FnG P w K mg base CX0 58 T.f_law T.fd_law ["_law_script"] (spLaw K) := by
  refine okG T.F_law sc_law (fun vs H Q E h => ?_) (fun cdv A outer s H vs Q E hgu hr h => ?_)
  · obtain ⟨a, ns, rfl, _⟩ := h
    rfl
  · obtain ⟨a, ns, rfl, hS, hl, k⟩ := h
    have GT := vok_bent (P := P) (w := w) (base := base) T
    refine ⟨_, (pss_cons (ps_set (i := 1) sc_law.nd rfl (Or.inl rfl) (pe_call (ok_begun T) (hr.mono (by decide)) rfl T.g_law_begun T.F_law_begun.kp T.b_law_begun .nil pass0 (pa_cons (pv 0) pa_nil))) (show VSs _ mF [] [] [] _ _ from (vss_cons (vs_for (t := (.nm 2)) PassesOwn.never rfl (vi_rng1 (by rfl) T.z_range (vab_cons (ve_add ve_int.vb (ve_min2 rfl (by rfl) T.z_min (vab_cons (ve_lenScr (by rfl) T.z_len (ve_var (pv 0))).vb (vab_cons ve_int.vb vab_nil))).vb).vb vab_nil)) (pg_name (i := 2) sc_law.nd rfl (Or.inl rfl))
        (vss_cons (vs_asgT (t := (.tp [3, 4])) (ve_call (vok_deep T) (hr.mono (by decide)) (by rfl) T.g_law_deep T.F_law_deep.kp T.b_law_deep (va_cons (ve_var (pv 1)) va_nil)) (pg_tup (by rfl) (pgs_cons (pg_name (i := 3) sc_law.nd rfl (Or.inl rfl)) (pgs_cons (pg_name (i := 4) sc_law.nd rfl (Or.inl rfl)) pgs_nil))))
      (vss_cons (vs_if (vt_cmp (cp_ne hr.units) (ve_repr hgu (hu70 hr) (by rfl) T.z_repr (vab_cons (ve_call (vok_treeB T) (hr.mono (by decide)) (by rfl) T.g_is_tree T.F_is_tree.kp T.b_is_tree (va_cons (ve_var (pv 3)) va_nil)).vb vab_nil)).vb (ve_repr hgu (hu70 hr) (by rfl) T.z_repr (vab_cons (ve_var (pv 4)).vb vab_nil)).vb)
        (vss_one (vs_ret ve_bl.ve))
        vss_nil)
      (vss_cons (vs_set (i := 3) sc_law.nd rfl (Or.inl rfl) (ve_call (vok_tree T) (hr.mono (by decide)) (by rfl) T.g_law_tree T.F_law_tree.kp T.b_law_tree (va_cons (ve_var (pv 1)) va_nil)))
      (vss_cons (vs_par2 (i := 5) (j := 6) (by rfl) sc_law.nd rfl rfl (by decide) rfl rfl (va_cons (vl_lc (own := [("_law_item_here", 9)]) (t := (.nm 9)) rfl sc_law.nd (vi_seq (ve_var (pv 3))) (blkOk_by (N := n_law) (sc := defScope s_law) (by decide +kernel)) (fun _ _ _ _ _ => (pg_name (i := 9) sc_law.nd rfl (Or.inl rfl))) (fun _ _ _ _ _ => (vpts_one (vt_cmp (cp_notIn (hu65 hr)) (ve_ix (ve_var (pv 9)).vb ve_int.vb).vb (ve_tup (va_cons ve_str.ve (va_cons ve_str.ve va_nil))).vb))) (fun _ _ _ _ _ => (ve_var (pv 9)))).ve (va_cons (ve_var (pv 3)) va_nil)) (by rfl))
      (vss_cons (vs_set (i := 5) sc_law.nd rfl (Or.inl rfl) (ve_add (ve_var (pv 5)).vb (ve_lst (va_cons (ve_tup (va_cons ve_str.ve va_nil)).ve (va_cons (ve_tup (va_cons (ve_tup (va_cons ve_str.ve va_nil)).ve va_nil)).ve (va_cons (ve_tup (va_cons (ve_tup (va_cons ve_str.ve (va_cons ve_str.ve va_nil))).ve va_nil)).ve (va_cons (ve_tup (va_cons (ve_tup (va_cons ve_str.ve (va_cons ve_str.ve va_nil))).ve va_nil)).ve (va_cons (ve_tup (va_cons ve_str.ve (va_cons ve_str.ve va_nil))).ve (va_cons (ve_tup (va_cons (ve_tup (va_cons ve_str.ve (va_cons ve_str.ve va_nil))).ve va_nil)).ve va_nil))))))).vb).ve)
      (vss_cons (vs_for (t := (.nm 7)) PassesOwn.never rfl (vi_rng1 (by rfl) T.z_range (vab_cons (ve_call (vok_take T) (hr.mono (by decide)) (by rfl) T.g_law_take T.F_law_take.kp T.b_law_take (va_cons (ve_var (pv 1)) (va_cons ve_int.ve va_nil))).vb vab_nil)) (pg_name (i := 7) sc_law.nd rfl (Or.inl rfl))
        (vss_one (vs_set (i := 6) sc_law.nd rfl (Or.inl rfl) (ve_call GT (hr.mono (by decide)) (by rfl) T.g_law_bent T.F_law_bent.kp T.b_law_bent (va_cons (ve_var (pv 1)) (va_cons (ve_var (pv 6)) (va_cons (ve_var (pv 5)) va_nil)))))))
      (vss_cons (vs_if (vw_or (vt_cmp (cp_ne hr.units) (ve_repr hgu (hu70 hr) (by rfl) T.z_repr (vab_cons (ve_call (vok_treeB T) (hr.mono (by decide)) (by rfl) T.g_is_tree T.F_is_tree.kp T.b_is_tree (va_cons (ve_var (pv 6)) va_nil)).vb vab_nil)).vb (ve_repr hgu (hu70 hr) (by rfl) T.z_repr (vab_cons (ve_call (vok_ltreeB T) (hr.mono (by decide)) (by rfl) T.g_law_is_tree T.F_law_is_tree.kp T.b_law_is_tree (va_cons (ve_var (pv 6)) va_nil)).vb vab_nil)).vb) (vw_or1 (vt_cmp cp_notB (ve_callK (vok_treeB T) (hr.mono (by decide)) (by rfl) T.g_is_tree T.F_is_tree.kp (kb_istree T) (ve_var (pv 3))).vb ve_bl.vb))).vt
        (vss_one (vs_ret ve_bl.ve))
        vss_nil)
      (vss_cons (vs_set (i := 8) sc_law.nd rfl (Or.inl rfl) (ve_call (vok_pick T) (hr.mono (by decide)) (by rfl) T.g_law_pick T.F_law_pick.kp T.b_law_pick (va_cons (ve_var (pv 1)) (va_cons (ve_lst (va_cons ve_non.ve (va_cons ve_int.ve (va_cons ve_str.ve (va_cons ve_str.ve (va_cons (ve_list (by rfl) T.z_list (vab_cons (ve_var (pv 3)).vb vab_nil)).ve (va_cons ve_disp0.ve (va_cons ve_bl.ve (va_cons (ve_tup (va_cons ve_str.ve (va_cons ve_str.ve va_nil))).ve (va_cons (ve_lst (va_cons (ve_var (pv 3)) va_nil)).ve va_nil)))))))))).ve va_nil))))
      (vss_one (vs_if (vt_cmp cp_notB (ve_call (vok_treeB T) (hr.mono (by decide)) (by rfl) T.g_is_tree T.F_is_tree.kp T.b_is_tree (va_cons (ve_var (pv 8)) va_nil)).vb ve_bl.vb)
        (vss_one (vs_ret ve_bl.ve))
        vss_nil)))))))))))
      (vss_one (vs_ret ve_bl.ve))))), ?_⟩
    refine ⟨_, rfl, a, ns, rfl, hS, by omega, fun d g c H1 nd ng nc D1 s1 => lift_law hS s1 ng D1 k ?_⟩
    show (_ : VTS) lawEnd (lawEn 8) _
    repeat infer_instance
    refine i_lenScr5 ?_
    repeat infer_instance
    refine i_min25 ?_
    obtain ⟨lt, elt, hlt⟩ : ∃ lt : Nat, (6 : Int) + (if (24 : Int) < (ns.length : Int) then (24 : Int) else (ns.length : Int)) = (lt : Nat) ∧ lt ≤ 30 := by
      split
      · exact ⟨30, by omega, by omega⟩
      · exact ⟨6 + ns.length, by omega, by omega⟩
    repeat infer_instance
    rw [elt]
    refine ⟨lt, rfl, by omega, by omega, ?_⟩
    rw [Int.toNat_natCast]
    refine i_loop (fun i ρ r' => i ≤ lt ∧ ∃ (mm : Nat) (v2 v3 v4 v5 v6 v7 v8 v9 : Option D), r' = ⟨mm, [], ns.length⟩ ∧ mm ≤ 20000 * i ∧ ρ = [some dScr, some dSt, v2, v3, v4, v5, v6, v7, v8, v9]) ⟨Nat.zero_le _, 0, none, none, none, none, none, none, none, none, rfl, by omega, rfl⟩ ?_ ?_
    · rintro i d ρ _ nx hd ⟨hi, mm, v2, v3, v4, v5, v6, v7, v8, v9, rfl, hmm, rfl⟩ hI
      have hi2 : i < lt := by
        have := (List.getElem?_eq_some_iff.mp hd).1
        simpa [rngD] using this
      clear hd
      refine i_bind1 ?_
      dsimp only [List.set]
      repeat infer_instance
      refine ⟨rfl, by show mm ≤ _; omega, fun j b m1 hb hj hm1 => ?_⟩
      have hm1 : m1 ≤ mm + 20 := hm1
      repeat infer_instance
      refine ⟨_, rfl, deep_pl hb, ?_⟩
      rw [deep_tree hb]
      repeat infer_instance
      refine i_reprB5 ?_
      repeat infer_instance
      refine i_reprB5 ?_
      refine i_neS ?_
      rw [decide_eq_true rfl]
      repeat infer_instance
      refine ⟨rfl, by show m1 ≤ _; omega, fun ts hT h5 hl => ?_⟩
      repeat infer_instance
      refine i_goF (fun d => !decide (sOf (at0D d) ∈ (["def", "table"] : List Str))) id (fun d hdm R R0 q1 q2 => ?_) ?_
      · have key : ∃ z t, d = .tuple (.str z :: t) := by cases hT.items d hdm <;> exact ⟨_, _, rfl⟩
        obtain ⟨z, t, rfl⟩ := key
        repeat infer_instance
        refine i_ixT at_0 ?_
        repeat infer_instance
        show dIn true (.str z) (.tuple ((["def", "table"] : List Str).map .str)) _
        refine i_ninTs ?_
        repeat infer_instance
        refine i_ite (fun h => ?_) (fun h => ?_)
        · repeat infer_instance
          exact q1 h
        · exact q2 h
      rw [List.map_id]
      have hex : ∀ x ∈ ts.filter (fun d => !decide (sOf (at0D d) ∈ (["def", "table"] : List Str))), Bd 105 3 x := fun x hx => by
        obtain ⟨h1, h2⟩ := List.mem_filter.mp hx
        exact row_bd (hT.items x h1) (by simpa using h2)
      have hel := List.length_filter_le (fun d => !decide (sOf (at0D d) ∈ (["def", "table"] : List Str))) ts
      generalize ts.filter (fun d => !decide (sOf (at0D d) ∈ (["def", "table"] : List Str))) = es at hex hel
      repeat infer_instance
      have hx6 : ∀ x ∈ exL5, Bd 105 3 x := by
        intro x hx
        simp only [exL5, List.mem_cons, List.not_mem_nil, or_false] at hx
        have S : ∀ {k : Nat} {z : Str}, z.length ≤ 1000 → Bd 105 k (.str z) := fun h => .str h
        rcases hx with rfl | rfl | rfl | rfl | rfl | rfl
        · exact .tup (by simp) (by intro y hy; rw [List.mem_singleton.mp hy]; exact S (by decide +kernel))
        · exact .tup (by simp) (by intro y hy; rw [List.mem_singleton.mp hy]; exact .tup (by simp) (by intro y hy; rw [List.mem_singleton.mp hy]; exact S (by decide +kernel)))
        · exact .tup (by simp) (by intro y hy; rw [List.mem_singleton.mp hy]; exact .tup (by simp) (by intro y hy; simp only [List.mem_cons, List.not_mem_nil, or_false] at hy; rcases hy with rfl | rfl; exact S (by decide +kernel); exact S (by decide +kernel)))
        · exact .tup (by simp) (by intro y hy; rw [List.mem_singleton.mp hy]; exact .tup (by simp) (by intro y hy; simp only [List.mem_cons, List.not_mem_nil, or_false] at hy; rcases hy with rfl | rfl; exact S (by decide +kernel); exact S (by decide +kernel)))
        · exact .tup (by simp) (by intro y hy; simp only [List.mem_cons, List.not_mem_nil, or_false] at hy; rcases hy with rfl | rfl; exact S (by decide +kernel); exact S (by decide +kernel))
        · exact .tup (by simp) (by intro y hy; rw [List.mem_singleton.mp hy]; exact .tup (by simp) (by intro y hy; simp only [List.mem_cons, List.not_mem_nil, or_false] at hy; rcases hy with rfl | rfl; exact S (by decide +kernel); exact S (by decide +kernel)))
      have hx7 : ∀ x ∈ es ++ exL5, Bd 105 3 x := fun x hx => (List.mem_append.mp hx).elim (hex x) (hx6 x)
      have hl7 : (es ++ exL5).length ≤ 500 := by rw [List.length_append]; have : exL5.length = 6 := rfl; omega
      refine i_take (by show m1 + 8000 ≤ _; omega) (by decide) (by decide) fun k2 hk2 => ?_
      repeat infer_instance
      refine ⟨(k2 : Nat), rfl, by omega, by omega, ?_⟩
      rw [Int.toNat_natCast]
      show vLoop _ _ _ _ [some dScr, some dSt, some d, some (.tuple ts), some (.bool (decide (j < 4))), some (.list (es ++ exL5)), some (.tuple ts), v7, v8, v9] _
      generalize es ++ exL5 = xs at hx7 hl7
      have hTb := tree_bd hT h5 hl
      refine i_loop (fun q ρ r' => ∃ (wd : D) (m2 : Nat) (v7 : Option D), Bd (105 + q) (13 + 4 * q) wd ∧ r' = ⟨m2, [], ns.length⟩ ∧ m2 ≤ mm + 8030 + 300 * q ∧ ρ = [some dScr, some dSt, some d, some (.tuple ts), some (.bool (decide (j < 4))), some (.list xs), some wd, v7, v8, v9]) ⟨_, m1 + 8001, _, hTb, rfl, by omega, rfl⟩ ?_ ?_
      · rintro q d3 ρ _ nx2 hd3 ⟨wd, m2, v7, hwd, rfl, hm2, rfl⟩ hJ
        have hq : q < k2 := by
          have := (List.getElem?_eq_some_iff.mp hd3).1
          simpa [rngD] using this
        clear hd3
        refine i_bind1 ?_
        dsimp only [List.set]
        repeat infer_instance
        refine ⟨105 + q, 13 + 4 * q, by omega, by omega, wd, xs, rfl, hwd, hl7, fun x hx => (hx7 x hx).mono (by omega) (by omega), by show m2 + _ ≤ _; omega, fun d' m' hd' hm' => ?_⟩
        have hm' : m' ≤ m2 + 6 * (13 + 4 * q + 1) := hm'
        repeat infer_instance
        exact hJ _ _ ⟨d', m', _, hd'.mono (by omega) (by omega), rfl, by omega, rfl⟩
      rintro ρ _ ⟨wd, m2, v7, hwd, rfl, hm2, rfl⟩
      have hrl : (rngD 0 k2).length = k2 := by unfold rngD; rw [List.length_map, List.length_range]
      rw [hrl] at hwd hm2
      have hwp : Pl wd := hwd.pl (by omega)
      have htp : Pl (.tuple ts) := hTb.pl (by omega)
      repeat infer_instance
      refine ⟨wd, rfl, hwp, ?_⟩
      repeat infer_instance
      refine i_reprB5 ?_
      repeat infer_instance
      refine ⟨wd, rfl, hwp, ?_⟩
      repeat infer_instance
      refine i_reprB5 ?_
      refine i_neS ?_
      rw [decide_eq_true rfl]
      repeat infer_instance
      refine ⟨.tuple ts, rfl, htp, ?_⟩
      rw [tree_okB hT]
      repeat infer_instance
      refine ⟨true, true, rfl, rfl, ?_⟩
      repeat infer_instance
      rw [if_neg (by simp)]
      repeat infer_instance
      refine i_pickL (by show m2 ≤ _; omega) (by simp) (by simp) fun x hx => ?_
      have hxf : Pl x ∧ treeB x = false := by
        simp only [List.mem_cons, List.not_mem_nil, or_false] at hx
        rcases hx with rfl | rfl | rfl | rfl | rfl | rfl | rfl | rfl | rfl
        · exact ⟨.none, rfl⟩
        · exact ⟨.int _, rfl⟩
        · exact ⟨.str (by decide +kernel), rfl⟩
        · exact ⟨.str (by decide +kernel), rfl⟩
        · exact ⟨.list _, rfl⟩
        · exact ⟨.dict rfl, rfl⟩
        · exact ⟨.bool _, rfl⟩
        · exact ⟨.tup (by simp) (by intro y hy; simp only [List.mem_cons, List.not_mem_nil, or_false] at hy; rcases hy with rfl | rfl; exact .str (by decide +kernel); exact .str (by decide +kernel)), rfl⟩
        · exact ⟨.list _, rfl⟩
      repeat infer_instance
      refine ⟨x, rfl, hxf.1, ?_⟩
      rw [hxf.2]
      repeat infer_instance
      refine ⟨false, false, rfl, rfl, ?_⟩
      repeat infer_instance
      rw [if_neg (by simp)]
      repeat infer_instance
      exact hI _ _ ⟨by omega, m2 + 1, _, _, _, _, _, _, _, _, rfl, by omega, rfl⟩
    · rintro ρ _ ⟨hi, mm, v2, v3, v4, v5, v6, v7, v8, v9, rfl, hmm, rfl⟩
      repeat infer_instance
      exact rfl
end
end Sn
namespace Sn
open PySem PySem.Spec PyProof.Rows L2
set_option maxHeartbeats 0 in
theorem factsH {P : Program} {w : World} {K : Fr} {h : Heap} {mg : Str → Option Value} {fa : Addr} (X : K.In h) (G : h.Ns mainGlobals mg) (hfa : mg ("law" : Str) = some (.ref fa)) (c : obsM fsH dsH tsH K = valM dsH tsH w) :
    ∃ fd : FuncData, (∀ (s : Shared) (v : Value), BindsTo s fd ⟨[v], []⟩ [("_law_script", v)]) ∧ ∀ base : Heap, K.In base → base.Ns mainGlobals mg → FnG P w K mg base CX0 58 fa fd ["_law_script"] (spLaw K) := by
  have df_is_word : (dfB K (He.ga K "is_word") "is_word" []) = true := fact c 0 rfl
  obtain ⟨fd_is_word, F_is_word⟩ := fun_of (K := K) (a := (He.ga K "is_word")) (name := "is_word") (qual := "is_word") (st := s_is_word) (dfnM c 0 (d := d_is_word) rfl) df_is_word
  have g0_0 : (He.Fa.ok K (.glo "is_word")) = true := fact c 1 rfl
  have df_is_name : (dfB K (He.ga K "is_name") "is_name" []) = true := fact c 2 rfl
  obtain ⟨fd_is_name, F_is_name⟩ := fun_of (K := K) (a := (He.ga K "is_name")) (name := "is_name") (qual := "is_name") (st := s_is_name) (dfnM c 1 (d := d_is_name) rfl) df_is_name
  have g0_1 : (He.Fa.ok K (.glo "is_name")) = true := fact c 3 rfl
  have df_are_different : (dfB K (He.ga K "are_different") "are_different" []) = true := fact c 4 rfl
  obtain ⟨fd_are_different, F_are_different⟩ := fun_of (K := K) (a := (He.ga K "are_different")) (name := "are_different") (qual := "are_different") (st := s_are_different) (dfnM c 2 (d := d_are_different) rfl) df_are_different
  have g0_2 : (He.Fa.ok K (.glo "are_different")) = true := fact c 5 rfl
  have df_are_names : (dfB K (He.ga K "are_names") "are_names" []) = true := fact c 6 rfl
  obtain ⟨fd_are_names, F_are_names⟩ := fun_of (K := K) (a := (He.ga K "are_names")) (name := "are_names") (qual := "are_names") (st := s_are_names) (dfnM c 3 (d := d_are_names) rfl) df_are_names
  have g0_3 : (He.Fa.ok K (.glo "are_names")) = true := fact c 7 rfl
  have df_are_pairs : (dfB K (He.ga K "are_pairs") "are_pairs" []) = true := fact c 8 rfl
  obtain ⟨fd_are_pairs, F_are_pairs⟩ := fun_of (K := K) (a := (He.ga K "are_pairs")) (name := "are_pairs") (qual := "are_pairs") (st := s_are_pairs) (dfnM c 4 (d := d_are_pairs) rfl) df_are_pairs
  have g0_4 : (He.Fa.ok K (.glo "are_pairs")) = true := fact c 9 rfl
  have df_is_part : (dfB K (He.ga K "is_part") "is_part" []) = true := fact c 10 rfl
  obtain ⟨fd_is_part, F_is_part⟩ := fun_of (K := K) (a := (He.ga K "is_part")) (name := "is_part") (qual := "is_part") (st := s_is_part) (dfnM c 5 (d := d_is_part) rfl) df_is_part
  have g0_5 : (He.Fa.ok K (.glo "is_part")) = true := fact c 11 rfl
  have df_is_expr : (dfB K (He.ga K "is_expr") "is_expr" []) = true := fact c 12 rfl
  obtain ⟨fd_is_expr, F_is_expr⟩ := fun_of (K := K) (a := (He.ga K "is_expr")) (name := "is_expr") (qual := "is_expr") (st := s_is_expr) (dfnM c 6 (d := d_is_expr) rfl) df_is_expr
  have g0_6 : (He.Fa.ok K (.glo "is_expr")) = true := fact c 13 rfl
  have df_is_target : (dfB K (He.ga K "is_target") "is_target" []) = true := fact c 14 rfl
  obtain ⟨fd_is_target, F_is_target⟩ := fun_of (K := K) (a := (He.ga K "is_target")) (name := "is_target") (qual := "is_target") (st := s_is_target) (dfnM c 7 (d := d_is_target) rfl) df_is_target
  have g0_7 : (He.Fa.ok K (.glo "is_target")) = true := fact c 15 rfl
  have df_are_given : (dfB K (He.ga K "are_given") "are_given" []) = true := fact c 16 rfl
  obtain ⟨fd_are_given, F_are_given⟩ := fun_of (K := K) (a := (He.ga K "are_given")) (name := "are_given") (qual := "are_given") (st := s_are_given) (dfnM c 8 (d := d_are_given) rfl) df_are_given
  have g0_8 : (He.Fa.ok K (.glo "are_given")) = true := fact c 17 rfl
  have df_is_block : (dfB K (He.ga K "is_block") "is_block" []) = true := fact c 18 rfl
  obtain ⟨fd_is_block, F_is_block⟩ := fun_of (K := K) (a := (He.ga K "is_block")) (name := "is_block") (qual := "is_block") (st := s_is_block) (dfnM c 9 (d := d_is_block) rfl) df_is_block
  have g0_9 : (He.Fa.ok K (.glo "is_block")) = true := fact c 19 rfl
  have df_is_other : (dfB K (He.ga K "is_other") "is_other" []) = true := fact c 20 rfl
  obtain ⟨fd_is_other, F_is_other⟩ := fun_of (K := K) (a := (He.ga K "is_other")) (name := "is_other") (qual := "is_other") (st := s_is_other) (dfnM c 10 (d := d_is_other) rfl) df_is_other
  have g0_10 : (He.Fa.ok K (.glo "is_other")) = true := fact c 21 rfl
  have df_is_statement : (dfB K (He.ga K "is_statement") "is_statement" []) = true := fact c 22 rfl
  obtain ⟨fd_is_statement, F_is_statement⟩ := fun_of (K := K) (a := (He.ga K "is_statement")) (name := "is_statement") (qual := "is_statement") (st := s_is_statement) (dfnM c 11 (d := d_is_statement) rfl) df_is_statement
  have g0_11 : (He.Fa.ok K (.glo "is_statement")) = true := fact c 23 rfl
  have df_is_item : (dfB K (He.ga K "is_item") "is_item" []) = true := fact c 24 rfl
  obtain ⟨fd_is_item, F_is_item⟩ := fun_of (K := K) (a := (He.ga K "is_item")) (name := "is_item") (qual := "is_item") (st := s_is_item) (dfnM c 12 (d := d_is_item) rfl) df_is_item
  have g0_12 : (He.Fa.ok K (.glo "is_item")) = true := fact c 25 rfl
  have df_is_tree : (dfB K (He.ga K "is_tree") "is_tree" []) = true := fact c 26 rfl
  obtain ⟨fd_is_tree, F_is_tree⟩ := fun_of (K := K) (a := (He.ga K "is_tree")) (name := "is_tree") (qual := "is_tree") (st := s_is_tree) (dfnM c 13 (d := d_is_tree) rfl) df_is_tree
  have g0_13 : (He.Fa.ok K (.glo "is_tree")) = true := fact c 27 rfl
  have df_law_begun : (dfB K (He.ga K "_law_begun") "_law_begun" []) = true := fact c 28 rfl
  obtain ⟨fd_law_begun, F_law_begun⟩ := fun_of (K := K) (a := (He.ga K "_law_begun")) (name := "_law_begun") (qual := "_law_begun") (st := s_law_begun) (dfnM c 14 (d := d_law_begun) rfl) df_law_begun
  have g0_14 : (He.Fa.ok K (.glo "_law_begun")) = true := fact c 29 rfl
  have df_law_mixed : (dfB K (He.ga K "_law_mixed") "_law_mixed" []) = true := fact c 30 rfl
  obtain ⟨fd_law_mixed, F_law_mixed⟩ := fun_of (K := K) (a := (He.ga K "_law_mixed")) (name := "_law_mixed") (qual := "_law_mixed") (st := s_law_mixed) (dfnM c 15 (d := d_law_mixed) rfl) df_law_mixed
  have g0_15 : (He.Fa.ok K (.glo "_law_mixed")) = true := fact c 31 rfl
  have df_law_take : (dfB K (He.ga K "_law_take") "_law_take" []) = true := fact c 32 rfl
  obtain ⟨fd_law_take, F_law_take⟩ := fun_of (K := K) (a := (He.ga K "_law_take")) (name := "_law_take") (qual := "_law_take") (st := s_law_take) (dfnM c 16 (d := d_law_take) rfl) df_law_take
  have g0_16 : (He.Fa.ok K (.glo "_law_take")) = true := fact c 33 rfl
  have df_law_pick : (dfB K (He.ga K "_law_pick") "_law_pick" []) = true := fact c 34 rfl
  obtain ⟨fd_law_pick, F_law_pick⟩ := fun_of (K := K) (a := (He.ga K "_law_pick")) (name := "_law_pick") (qual := "_law_pick") (st := s_law_pick) (dfnM c 17 (d := d_law_pick) rfl) df_law_pick
  have g0_17 : (He.Fa.ok K (.glo "_law_pick")) = true := fact c 35 rfl
  have df_law_reserved : (dfB K (He.ga K "_law_reserved") "_law_reserved" []) = true := fact c 36 rfl
  obtain ⟨fd_law_reserved, F_law_reserved⟩ := fun_of (K := K) (a := (He.ga K "_law_reserved")) (name := "_law_reserved") (qual := "_law_reserved") (st := s_law_reserved) (dfnM c 18 (d := d_law_reserved) rfl) df_law_reserved
  have g0_18 : (He.Fa.ok K (.glo "_law_reserved")) = true := fact c 37 rfl
  have df_law_any_word : (dfB K (He.ga K "_law_any_word") "_law_any_word" []) = true := fact c 38 rfl
  obtain ⟨fd_law_any_word, F_law_any_word⟩ := fun_of (K := K) (a := (He.ga K "_law_any_word")) (name := "_law_any_word") (qual := "_law_any_word") (st := s_law_any_word) (dfnM c 19 (d := d_law_any_word) rfl) df_law_any_word
  have g0_19 : (He.Fa.ok K (.glo "_law_any_word")) = true := fact c 39 rfl
  have df_law_any_name : (dfB K (He.ga K "_law_any_name") "_law_any_name" []) = true := fact c 40 rfl
  obtain ⟨fd_law_any_name, F_law_any_name⟩ := fun_of (K := K) (a := (He.ga K "_law_any_name")) (name := "_law_any_name") (qual := "_law_any_name") (st := s_law_any_name) (dfnM c 20 (d := d_law_any_name) rfl) df_law_any_name
  have g0_20 : (He.Fa.ok K (.glo "_law_any_name")) = true := fact c 41 rfl
  have df_law_names : (dfB K (He.ga K "_law_names") "_law_names" []) = true := fact c 42 rfl
  obtain ⟨fd_law_names, F_law_names⟩ := fun_of (K := K) (a := (He.ga K "_law_names")) (name := "_law_names") (qual := "_law_names") (st := s_law_names) (dfnM c 21 (d := d_law_names) rfl) df_law_names
  have g0_21 : (He.Fa.ok K (.glo "_law_names")) = true := fact c 43 rfl
  have df_law_expr : (dfB K (He.ga K "_law_expr") "_law_expr" []) = true := fact c 44 rfl
  obtain ⟨fd_law_expr, F_law_expr⟩ := fun_of (K := K) (a := (He.ga K "_law_expr")) (name := "_law_expr") (qual := "_law_expr") (st := s_law_expr) (dfnM c 22 (d := d_law_expr) rfl) df_law_expr
  have g0_22 : (He.Fa.ok K (.glo "_law_expr")) = true := fact c 45 rfl
  have df_law_target : (dfB K (He.ga K "_law_target") "_law_target" []) = true := fact c 46 rfl
  obtain ⟨fd_law_target, F_law_target⟩ := fun_of (K := K) (a := (He.ga K "_law_target")) (name := "_law_target") (qual := "_law_target") (st := s_law_target) (dfnM c 23 (d := d_law_target) rfl) df_law_target
  have g0_23 : (He.Fa.ok K (.glo "_law_target")) = true := fact c 47 rfl
  have df_law_row : (dfB K (He.ga K "_law_row") "_law_row" []) = true := fact c 48 rfl
  obtain ⟨fd_law_row, F_law_row⟩ := fun_of (K := K) (a := (He.ga K "_law_row")) (name := "_law_row") (qual := "_law_row") (st := s_law_row) (dfnM c 24 (d := d_law_row) rfl) df_law_row
  have g0_24 : (He.Fa.ok K (.glo "_law_row")) = true := fact c 49 rfl
  have df_law_block : (dfB K (He.ga K "_law_block") "_law_block" []) = true := fact c 50 rfl
  obtain ⟨fd_law_block, F_law_block⟩ := fun_of (K := K) (a := (He.ga K "_law_block")) (name := "_law_block") (qual := "_law_block") (st := s_law_block) (dfnM c 25 (d := d_law_block) rfl) df_law_block
  have g0_25 : (He.Fa.ok K (.glo "_law_block")) = true := fact c 51 rfl
  have df_law_item : (dfB K (He.ga K "_law_item") "_law_item" []) = true := fact c 52 rfl
  obtain ⟨fd_law_item, F_law_item⟩ := fun_of (K := K) (a := (He.ga K "_law_item")) (name := "_law_item") (qual := "_law_item") (st := s_law_item) (dfnM c 26 (d := d_law_item) rfl) df_law_item
  have g0_26 : (He.Fa.ok K (.glo "_law_item")) = true := fact c 53 rfl
  have df_law_tree : (dfB K (He.ga K "_law_tree") "_law_tree" []) = true := fact c 54 rfl
  obtain ⟨fd_law_tree, F_law_tree⟩ := fun_of (K := K) (a := (He.ga K "_law_tree")) (name := "_law_tree") (qual := "_law_tree") (st := s_law_tree) (dfnM c 27 (d := d_law_tree) rfl) df_law_tree
  have g0_27 : (He.Fa.ok K (.glo "_law_tree")) = true := fact c 55 rfl
  have df_law_is_word : (dfB K (He.ga K "_law_is_word") "_law_is_word" []) = true := fact c 56 rfl
  obtain ⟨fd_law_is_word, F_law_is_word⟩ := fun_of (K := K) (a := (He.ga K "_law_is_word")) (name := "_law_is_word") (qual := "_law_is_word") (st := s_law_is_word) (dfnM c 28 (d := d_law_is_word) rfl) df_law_is_word
  have g0_28 : (He.Fa.ok K (.glo "_law_is_word")) = true := fact c 57 rfl
  have df_law_is_name : (dfB K (He.ga K "_law_is_name") "_law_is_name" []) = true := fact c 58 rfl
  obtain ⟨fd_law_is_name, F_law_is_name⟩ := fun_of (K := K) (a := (He.ga K "_law_is_name")) (name := "_law_is_name") (qual := "_law_is_name") (st := s_law_is_name) (dfnM c 29 (d := d_law_is_name) rfl) df_law_is_name
  have g0_29 : (He.Fa.ok K (.glo "_law_is_name")) = true := fact c 59 rfl
  have df_law_is_row : (dfB K (He.ga K "_law_is_row") "_law_is_row" []) = true := fact c 60 rfl
  obtain ⟨fd_law_is_row, F_law_is_row⟩ := fun_of (K := K) (a := (He.ga K "_law_is_row")) (name := "_law_is_row") (qual := "_law_is_row") (st := s_law_is_row) (dfnM c 30 (d := d_law_is_row) rfl) df_law_is_row
  have g0_30 : (He.Fa.ok K (.glo "_law_is_row")) = true := fact c 61 rfl
  have df_law_are_names : (dfB K (He.ga K "_law_are_names") "_law_are_names" []) = true := fact c 62 rfl
  obtain ⟨fd_law_are_names, F_law_are_names⟩ := fun_of (K := K) (a := (He.ga K "_law_are_names")) (name := "_law_are_names") (qual := "_law_are_names") (st := s_law_are_names) (dfnM c 31 (d := d_law_are_names) rfl) df_law_are_names
  have g0_31 : (He.Fa.ok K (.glo "_law_are_names")) = true := fact c 63 rfl
  have df_law_is_expr : (dfB K (He.ga K "_law_is_expr") "_law_is_expr" []) = true := fact c 64 rfl
  obtain ⟨fd_law_is_expr, F_law_is_expr⟩ := fun_of (K := K) (a := (He.ga K "_law_is_expr")) (name := "_law_is_expr") (qual := "_law_is_expr") (st := s_law_is_expr) (dfnM c 32 (d := d_law_is_expr) rfl) df_law_is_expr
  have g0_32 : (He.Fa.ok K (.glo "_law_is_expr")) = true := fact c 65 rfl
  have df_law_is_call : (dfB K (He.ga K "_law_is_call") "_law_is_call" []) = true := fact c 66 rfl
  obtain ⟨fd_law_is_call, F_law_is_call⟩ := fun_of (K := K) (a := (He.ga K "_law_is_call")) (name := "_law_is_call") (qual := "_law_is_call") (st := s_law_is_call) (dfnM c 33 (d := d_law_is_call) rfl) df_law_is_call
  have g0_33 : (He.Fa.ok K (.glo "_law_is_call")) = true := fact c 67 rfl
  have df_law_is_statement : (dfB K (He.ga K "_law_is_statement") "_law_is_statement" []) = true := fact c 68 rfl
  obtain ⟨fd_law_is_statement, F_law_is_statement⟩ := fun_of (K := K) (a := (He.ga K "_law_is_statement")) (name := "_law_is_statement") (qual := "_law_is_statement") (st := s_law_is_statement) (dfnM c 34 (d := d_law_is_statement) rfl) df_law_is_statement
  have g0_34 : (He.Fa.ok K (.glo "_law_is_statement")) = true := fact c 69 rfl
  have df_law_is_block : (dfB K (He.ga K "_law_is_block") "_law_is_block" []) = true := fact c 70 rfl
  obtain ⟨fd_law_is_block, F_law_is_block⟩ := fun_of (K := K) (a := (He.ga K "_law_is_block")) (name := "_law_is_block") (qual := "_law_is_block") (st := s_law_is_block) (dfnM c 35 (d := d_law_is_block) rfl) df_law_is_block
  have g0_35 : (He.Fa.ok K (.glo "_law_is_block")) = true := fact c 71 rfl
  have df_law_is_item : (dfB K (He.ga K "_law_is_item") "_law_is_item" []) = true := fact c 72 rfl
  obtain ⟨fd_law_is_item, F_law_is_item⟩ := fun_of (K := K) (a := (He.ga K "_law_is_item")) (name := "_law_is_item") (qual := "_law_is_item") (st := s_law_is_item) (dfnM c 36 (d := d_law_is_item) rfl) df_law_is_item
  have g0_36 : (He.Fa.ok K (.glo "_law_is_item")) = true := fact c 73 rfl
  have df_law_are_pairs : (dfB K (He.ga K "_law_are_pairs") "_law_are_pairs" []) = true := fact c 74 rfl
  obtain ⟨fd_law_are_pairs, F_law_are_pairs⟩ := fun_of (K := K) (a := (He.ga K "_law_are_pairs")) (name := "_law_are_pairs") (qual := "_law_are_pairs") (st := s_law_are_pairs) (dfnM c 37 (d := d_law_are_pairs) rfl) df_law_are_pairs
  have g0_37 : (He.Fa.ok K (.glo "_law_are_pairs")) = true := fact c 75 rfl
  have df_law_is_tree : (dfB K (He.ga K "_law_is_tree") "_law_is_tree" []) = true := fact c 76 rfl
  obtain ⟨fd_law_is_tree, F_law_is_tree⟩ := fun_of (K := K) (a := (He.ga K "_law_is_tree")) (name := "_law_is_tree") (qual := "_law_is_tree") (st := s_law_is_tree) (dfnM c 38 (d := d_law_is_tree) rfl) df_law_is_tree
  have g0_38 : (He.Fa.ok K (.glo "_law_is_tree")) = true := fact c 77 rfl
  have df_law_bent : (dfB K (He.ga K "_law_bent") "_law_bent" []) = true := fact c 78 rfl
  obtain ⟨fd_law_bent, F_law_bent⟩ := fun_of (K := K) (a := (He.ga K "_law_bent")) (name := "_law_bent") (qual := "_law_bent") (st := s_law_bent) (dfnM c 39 (d := d_law_bent) rfl) df_law_bent
  have g0_39 : (He.Fa.ok K (.glo "_law_bent")) = true := fact c 79 rfl
  have df_law_deep : (dfB K (He.ga K "_law_deep") "_law_deep" []) = true := fact c 80 rfl
  obtain ⟨fd_law_deep, F_law_deep⟩ := fun_of (K := K) (a := (He.ga K "_law_deep")) (name := "_law_deep") (qual := "_law_deep") (st := s_law_deep) (dfnM c 40 (d := d_law_deep) rfl) df_law_deep
  have g0_40 : (He.Fa.ok K (.glo "_law_deep")) = true := fact c 81 rfl
  have df_law : (dfB K (He.ga K "law") "law" []) = true := fact c 82 rfl
  obtain ⟨fd_law, F_law⟩ := fun_of (K := K) (a := (He.ga K "law")) (name := "law") (qual := "law") (st := s_law) (dfnM c 41 (d := d_law) rfl) df_law
  have g0_41 : (He.Fa.ok K (.glo "law")) = true := fact c 83 rfl
  have k_LETTERS : (He.Fa.ok K (.str "LETTERS" "abcdefghijklmnopqrstuvwxyz")) = true := fact c 84 rfl
  have k_SIGNS : (He.Fa.ok K (.str "SIGNS" "abcdefghijklmnopqrstuvwxyz0123456789_")) = true := fact c 85 rfl
  have k_MOST_SIGNS : (He.Fa.ok K (.int "MOST_SIGNS" 8)) = true := fact c 86 rfl
  have k_RESERVED : (He.tupB K "RESERVED" [.str "as", .str "ask", .str "call", .str "def", .str "each", .str "else", .str "entry", .str "except", .str "fail", .str "if", .str "in", .str "let", .str "offer", .str "return", .str "set", .str "table", .str "there", .str "try", .str "use"]) = true := fact c 87 rfl
  have g0_42 : (He.Fa.ok K (.glo "RESERVED")) = true := fact c 88 rfl
  have k_MOST_PARTS : (He.Fa.ok K (.int "MOST_PARTS" 4)) = true := fact c 89 rfl
  have k_MOST_GIVEN : (He.Fa.ok K (.int "MOST_GIVEN" 3)) = true := fact c 90 rfl
  have k_MOST_PAIRS : (He.Fa.ok K (.int "MOST_PAIRS" 12)) = true := fact c 91 rfl
  have k_MOST_LEVELS : (He.Fa.ok K (.int "MOST_LEVELS" 4)) = true := fact c 92 rfl
  have k_BINDERS : (He.tupB K "BINDERS" [.str "use", .str "set", .str "table", .str "def"]) = true := fact c 93 rfl
  have g0_43 : (He.Fa.ok K (.glo "BINDERS")) = true := fact c 94 rfl
  have z0_isinstance : (He.Fa.ok K (.free "isinstance")) = true := fact c 95 rfl
  have z0_str : (He.Fa.ok K (.free "str")) = true := fact c 96 rfl
  have z0_all : (He.Fa.ok K (.free "all")) = true := fact c 97 rfl
  have z0_len : (He.Fa.ok K (.free "len")) = true := fact c 98 rfl
  have z0_tuple : (He.Fa.ok K (.free "tuple")) = true := fact c 99 rfl
  have z0_list : (He.Fa.ok K (.free "list")) = true := fact c 100 rfl
  have z0_int : (He.Fa.ok K (.free "int")) = true := fact c 101 rfl
  have z0_range : (He.Fa.ok K (.free "range")) = true := fact c 102 rfl
  have z0_min : (He.Fa.ok K (.free "min")) = true := fact c 103 rfl
  have z0_repr : (He.Fa.ok K (.free "repr")) = true := fact c 104 rfl
  have e3 : fa = He.ga K "law" := by
    have z := hfa.symm.trans (He.glo_ok X G (x := "law") g0_41)
    injection z with z
    injection z
  subst e3
  have T : Nonempty { T : Txt K mg // T.f_law = He.ga K "law" ∧ T.fd_law = fd_law } := ⟨⟨{
    f_is_word := (He.ga K "is_word"), fd_is_word := fd_is_word, F_is_word := F_is_word,
    b_is_word := F_is_word.binds (ps := ["value"]) fun _ _ _ _ _ _ us hl => match us, hl with | [_], _ => rfl,
    g_is_word := He.glo_ok X G (x := "is_word") g0_0,
    f_is_name := (He.ga K "is_name"), fd_is_name := fd_is_name, F_is_name := F_is_name,
    b_is_name := F_is_name.binds (ps := ["value"]) fun _ _ _ _ _ _ us hl => match us, hl with | [_], _ => rfl,
    g_is_name := He.glo_ok X G (x := "is_name") g0_1,
    f_are_different := (He.ga K "are_different"), fd_are_different := fd_are_different, F_are_different := F_are_different,
    b_are_different := F_are_different.binds (ps := ["values"]) fun _ _ _ _ _ _ us hl => match us, hl with | [_], _ => rfl,
    g_are_different := He.glo_ok X G (x := "are_different") g0_2,
    f_are_names := (He.ga K "are_names"), fd_are_names := fd_are_names, F_are_names := F_are_names,
    b_are_names := F_are_names.binds (ps := ["value", "least", "most"]) fun _ _ _ _ _ _ us hl => match us, hl with | [_, _, _], _ => rfl,
    g_are_names := He.glo_ok X G (x := "are_names") g0_3,
    f_are_pairs := (He.ga K "are_pairs"), fd_are_pairs := fd_are_pairs, F_are_pairs := F_are_pairs,
    b_are_pairs := F_are_pairs.binds (ps := ["value"]) fun _ _ _ _ _ _ us hl => match us, hl with | [_], _ => rfl,
    g_are_pairs := He.glo_ok X G (x := "are_pairs") g0_4,
    f_is_part := (He.ga K "is_part"), fd_is_part := fd_is_part, F_is_part := F_is_part,
    b_is_part := F_is_part.binds (ps := ["value"]) fun _ _ _ _ _ _ us hl => match us, hl with | [_], _ => rfl,
    g_is_part := He.glo_ok X G (x := "is_part") g0_5,
    f_is_expr := (He.ga K "is_expr"), fd_is_expr := fd_is_expr, F_is_expr := F_is_expr,
    b_is_expr := F_is_expr.binds (ps := ["value"]) fun _ _ _ _ _ _ us hl => match us, hl with | [_], _ => rfl,
    g_is_expr := He.glo_ok X G (x := "is_expr") g0_6,
    f_is_target := (He.ga K "is_target"), fd_is_target := fd_is_target, F_is_target := F_is_target,
    b_is_target := F_is_target.binds (ps := ["value"]) fun _ _ _ _ _ _ us hl => match us, hl with | [_], _ => rfl,
    g_is_target := He.glo_ok X G (x := "is_target") g0_7,
    f_are_given := (He.ga K "are_given"), fd_are_given := fd_are_given, F_are_given := F_are_given,
    b_are_given := F_are_given.binds (ps := ["value"]) fun _ _ _ _ _ _ us hl => match us, hl with | [_], _ => rfl,
    g_are_given := He.glo_ok X G (x := "are_given") g0_8,
    f_is_block := (He.ga K "is_block"), fd_is_block := fd_is_block, F_is_block := F_is_block,
    b_is_block := F_is_block.binds (ps := ["value", "level"]) fun _ _ _ _ _ _ us hl => match us, hl with | [_, _], _ => rfl,
    g_is_block := He.glo_ok X G (x := "is_block") g0_9,
    f_is_other := (He.ga K "is_other"), fd_is_other := fd_is_other, F_is_other := F_is_other,
    b_is_other := F_is_other.binds (ps := ["value", "level"]) fun _ _ _ _ _ _ us hl => match us, hl with | [_, _], _ => rfl,
    g_is_other := He.glo_ok X G (x := "is_other") g0_10,
    f_is_statement := (He.ga K "is_statement"), fd_is_statement := fd_is_statement, F_is_statement := F_is_statement,
    b_is_statement := F_is_statement.binds (ps := ["value", "level"]) fun _ _ _ _ _ _ us hl => match us, hl with | [_, _], _ => rfl,
    g_is_statement := He.glo_ok X G (x := "is_statement") g0_11,
    f_is_item := (He.ga K "is_item"), fd_is_item := fd_is_item, F_is_item := F_is_item,
    b_is_item := F_is_item.binds (ps := ["value"]) fun _ _ _ _ _ _ us hl => match us, hl with | [_], _ => rfl,
    g_is_item := He.glo_ok X G (x := "is_item") g0_12,
    f_is_tree := (He.ga K "is_tree"), fd_is_tree := fd_is_tree, F_is_tree := F_is_tree,
    b_is_tree := F_is_tree.binds (ps := ["value"]) fun _ _ _ _ _ _ us hl => match us, hl with | [_], _ => rfl,
    g_is_tree := He.glo_ok X G (x := "is_tree") g0_13,
    f_law_begun := (He.ga K "_law_begun"), fd_law_begun := fd_law_begun, F_law_begun := F_law_begun,
    b_law_begun := F_law_begun.binds (ps := ["_law_script"]) fun _ _ _ _ _ _ us hl => match us, hl with | [_], _ => rfl,
    g_law_begun := He.glo_ok X G (x := "_law_begun") g0_14,
    f_law_mixed := (He.ga K "_law_mixed"), fd_law_mixed := fd_law_mixed, F_law_mixed := F_law_mixed,
    b_law_mixed := F_law_mixed.binds (ps := ["_law_state"]) fun _ _ _ _ _ _ us hl => match us, hl with | [_], _ => rfl,
    g_law_mixed := He.glo_ok X G (x := "_law_mixed") g0_15,
    f_law_take := (He.ga K "_law_take"), fd_law_take := fd_law_take, F_law_take := F_law_take,
    b_law_take := F_law_take.binds (ps := ["_law_state", "_law_size"]) fun _ _ _ _ _ _ us hl => match us, hl with | [_, _], _ => rfl,
    g_law_take := He.glo_ok X G (x := "_law_take") g0_16,
    f_law_pick := (He.ga K "_law_pick"), fd_law_pick := fd_law_pick, F_law_pick := F_law_pick,
    b_law_pick := F_law_pick.binds (ps := ["_law_state", "_law_some"]) fun _ _ _ _ _ _ us hl => match us, hl with | [_, _], _ => rfl,
    g_law_pick := He.glo_ok X G (x := "_law_pick") g0_17,
    f_law_reserved := (He.ga K "_law_reserved"), fd_law_reserved := fd_law_reserved, F_law_reserved := F_law_reserved,
    b_law_reserved := F_law_reserved.binds (ps := []) fun _ _ _ _ _ _ us hl => match us, hl with | [], _ => rfl,
    g_law_reserved := He.glo_ok X G (x := "_law_reserved") g0_18,
    f_law_any_word := (He.ga K "_law_any_word"), fd_law_any_word := fd_law_any_word, F_law_any_word := F_law_any_word,
    b_law_any_word := F_law_any_word.binds (ps := ["_law_state", "_law_least", "_law_most"]) fun _ _ _ _ _ _ us hl => match us, hl with | [_, _, _], _ => rfl,
    g_law_any_word := He.glo_ok X G (x := "_law_any_word") g0_19,
    f_law_any_name := (He.ga K "_law_any_name"), fd_law_any_name := fd_law_any_name, F_law_any_name := F_law_any_name,
    b_law_any_name := F_law_any_name.binds (ps := ["_law_state"]) fun _ _ _ _ _ _ us hl => match us, hl with | [_], _ => rfl,
    g_law_any_name := He.glo_ok X G (x := "_law_any_name") g0_20,
    f_law_names := (He.ga K "_law_names"), fd_law_names := fd_law_names, F_law_names := F_law_names,
    b_law_names := F_law_names.binds (ps := ["_law_state", "_law_many"]) fun _ _ _ _ _ _ us hl => match us, hl with | [_, _], _ => rfl,
    g_law_names := He.glo_ok X G (x := "_law_names") g0_21,
    f_law_expr := (He.ga K "_law_expr"), fd_law_expr := fd_law_expr, F_law_expr := F_law_expr,
    b_law_expr := F_law_expr.binds (ps := ["_law_state", "_law_kit"]) fun _ _ _ _ _ _ us hl => match us, hl with | [_, _], _ => rfl,
    g_law_expr := He.glo_ok X G (x := "_law_expr") g0_22,
    f_law_target := (He.ga K "_law_target"), fd_law_target := fd_law_target, F_law_target := F_law_target,
    b_law_target := F_law_target.binds (ps := ["_law_state", "_law_kit"]) fun _ _ _ _ _ _ us hl => match us, hl with | [_, _], _ => rfl,
    g_law_target := He.glo_ok X G (x := "_law_target") g0_23,
    f_law_row := (He.ga K "_law_row"), fd_law_row := fd_law_row, F_law_row := F_law_row,
    b_law_row := F_law_row.binds (ps := ["_law_state", "_law_kit", "_law_level"]) fun _ _ _ _ _ _ us hl => match us, hl with | [_, _, _], _ => rfl,
    g_law_row := He.glo_ok X G (x := "_law_row") g0_24,
    f_law_block := (He.ga K "_law_block"), fd_law_block := fd_law_block, F_law_block := F_law_block,
    b_law_block := F_law_block.binds (ps := ["_law_state", "_law_kit", "_law_level"]) fun _ _ _ _ _ _ us hl => match us, hl with | [_, _, _], _ => rfl,
    g_law_block := He.glo_ok X G (x := "_law_block") g0_25,
    f_law_item := (He.ga K "_law_item"), fd_law_item := fd_law_item, F_law_item := F_law_item,
    b_law_item := F_law_item.binds (ps := ["_law_state", "_law_kit", "_law_own"]) fun _ _ _ _ _ _ us hl => match us, hl with | [_, _, _], _ => rfl,
    g_law_item := He.glo_ok X G (x := "_law_item") g0_26,
    f_law_tree := (He.ga K "_law_tree"), fd_law_tree := fd_law_tree, F_law_tree := F_law_tree,
    b_law_tree := F_law_tree.binds (ps := ["_law_state"]) fun _ _ _ _ _ _ us hl => match us, hl with | [_], _ => rfl,
    g_law_tree := He.glo_ok X G (x := "_law_tree") g0_27,
    f_law_is_word := (He.ga K "_law_is_word"), fd_law_is_word := fd_law_is_word, F_law_is_word := F_law_is_word,
    b_law_is_word := F_law_is_word.binds (ps := ["_law_worth"]) fun _ _ _ _ _ _ us hl => match us, hl with | [_], _ => rfl,
    g_law_is_word := He.glo_ok X G (x := "_law_is_word") g0_28,
    f_law_is_name := (He.ga K "_law_is_name"), fd_law_is_name := fd_law_is_name, F_law_is_name := F_law_is_name,
    b_law_is_name := F_law_is_name.binds (ps := ["_law_worth"]) fun _ _ _ _ _ _ us hl => match us, hl with | [_], _ => rfl,
    g_law_is_name := He.glo_ok X G (x := "_law_is_name") g0_29,
    f_law_is_row := (He.ga K "_law_is_row"), fd_law_is_row := fd_law_is_row, F_law_is_row := F_law_is_row,
    b_law_is_row := F_law_is_row.binds (ps := ["_law_worth", "_law_sizes"]) fun _ _ _ _ _ _ us hl => match us, hl with | [_, _], _ => rfl,
    g_law_is_row := He.glo_ok X G (x := "_law_is_row") g0_30,
    f_law_are_names := (He.ga K "_law_are_names"), fd_law_are_names := fd_law_are_names, F_law_are_names := F_law_are_names,
    b_law_are_names := F_law_are_names.binds (ps := ["_law_worth", "_law_least", "_law_most"]) fun _ _ _ _ _ _ us hl => match us, hl with | [_, _, _], _ => rfl,
    g_law_are_names := He.glo_ok X G (x := "_law_are_names") g0_31,
    f_law_is_expr := (He.ga K "_law_is_expr"), fd_law_is_expr := fd_law_is_expr, F_law_is_expr := F_law_is_expr,
    b_law_is_expr := F_law_is_expr.binds (ps := ["_law_worth"]) fun _ _ _ _ _ _ us hl => match us, hl with | [_], _ => rfl,
    g_law_is_expr := He.glo_ok X G (x := "_law_is_expr") g0_32,
    f_law_is_call := (He.ga K "_law_is_call"), fd_law_is_call := fd_law_is_call, F_law_is_call := F_law_is_call,
    b_law_is_call := F_law_is_call.binds (ps := ["_law_row_here"]) fun _ _ _ _ _ _ us hl => match us, hl with | [_], _ => rfl,
    g_law_is_call := He.glo_ok X G (x := "_law_is_call") g0_33,
    f_law_is_statement := (He.ga K "_law_is_statement"), fd_law_is_statement := fd_law_is_statement, F_law_is_statement := F_law_is_statement,
    b_law_is_statement := F_law_is_statement.binds (ps := ["_law_row_here", "_law_level"]) fun _ _ _ _ _ _ us hl => match us, hl with | [_, _], _ => rfl,
    g_law_is_statement := He.glo_ok X G (x := "_law_is_statement") g0_34,
    f_law_is_block := (He.ga K "_law_is_block"), fd_law_is_block := fd_law_is_block, F_law_is_block := F_law_is_block,
    b_law_is_block := F_law_is_block.binds (ps := ["_law_worth", "_law_level"]) fun _ _ _ _ _ _ us hl => match us, hl with | [_, _], _ => rfl,
    g_law_is_block := He.glo_ok X G (x := "_law_is_block") g0_35,
    f_law_is_item := (He.ga K "_law_is_item"), fd_law_is_item := fd_law_is_item, F_law_is_item := F_law_is_item,
    b_law_is_item := F_law_is_item.binds (ps := ["_law_item_here"]) fun _ _ _ _ _ _ us hl => match us, hl with | [_], _ => rfl,
    g_law_is_item := He.glo_ok X G (x := "_law_is_item") g0_36,
    f_law_are_pairs := (He.ga K "_law_are_pairs"), fd_law_are_pairs := fd_law_are_pairs, F_law_are_pairs := F_law_are_pairs,
    b_law_are_pairs := F_law_are_pairs.binds (ps := ["_law_worth"]) fun _ _ _ _ _ _ us hl => match us, hl with | [_], _ => rfl,
    g_law_are_pairs := He.glo_ok X G (x := "_law_are_pairs") g0_37,
    f_law_is_tree := (He.ga K "_law_is_tree"), fd_law_is_tree := fd_law_is_tree, F_law_is_tree := F_law_is_tree,
    b_law_is_tree := F_law_is_tree.binds (ps := ["_law_worth"]) fun _ _ _ _ _ _ us hl => match us, hl with | [_], _ => rfl,
    g_law_is_tree := He.glo_ok X G (x := "_law_is_tree") g0_38,
    f_law_bent := (He.ga K "_law_bent"), fd_law_bent := fd_law_bent, F_law_bent := F_law_bent,
    b_law_bent := F_law_bent.binds (ps := ["_law_state", "_law_worth", "_law_extra"]) fun _ _ _ _ _ _ us hl => match us, hl with | [_, _, _], _ => rfl,
    g_law_bent := He.glo_ok X G (x := "_law_bent") g0_39,
    f_law_deep := (He.ga K "_law_deep"), fd_law_deep := fd_law_deep, F_law_deep := F_law_deep,
    b_law_deep := F_law_deep.binds (ps := ["_law_state"]) fun _ _ _ _ _ _ us hl => match us, hl with | [_], _ => rfl,
    g_law_deep := He.glo_ok X G (x := "_law_deep") g0_40,
    f_law := (He.ga K "law"), fd_law := fd_law, F_law := F_law,
    b_law := F_law.binds (ps := ["_law_script"]) fun _ _ _ _ _ _ us hl => match us, hl with | [_], _ => rfl,
    g_law := He.glo_ok X G (x := "law") g0_41,
    c_LETTERS := He.str_ok X G k_LETTERS,
    c_SIGNS := He.str_ok X G k_SIGNS,
    c_MOST_SIGNS := He.int_ok X G k_MOST_SIGNS,
    a_RESERVED := (He.ga K "RESERVED"), c_RESERVED := He.glo_ok X G (x := "RESERVED") g0_42, q_RESERVED := fun H => He.tupB_ok k_RESERVED H,
    c_MOST_PARTS := He.int_ok X G k_MOST_PARTS,
    c_MOST_GIVEN := He.int_ok X G k_MOST_GIVEN,
    c_MOST_PAIRS := He.int_ok X G k_MOST_PAIRS,
    c_MOST_LEVELS := He.int_ok X G k_MOST_LEVELS,
    a_BINDERS := (He.ga K "BINDERS"), c_BINDERS := He.glo_ok X G (x := "BINDERS") g0_43, q_BINDERS := fun H => He.tupB_ok k_BINDERS H,
    z_isinstance := He.free_ok X G (x := "isinstance") z0_isinstance,
    z_str := He.free_ok X G (x := "str") z0_str,
    z_all := He.free_ok X G (x := "all") z0_all,
    z_len := He.free_ok X G (x := "len") z0_len,
    z_tuple := He.free_ok X G (x := "tuple") z0_tuple,
    z_list := He.free_ok X G (x := "list") z0_list,
    z_int := He.free_ok X G (x := "int") z0_int,
    z_range := He.free_ok X G (x := "range") z0_range,
    z_min := He.free_ok X G (x := "min") z0_min,
    z_repr := He.free_ok X G (x := "repr") z0_repr }, rfl, rfl⟩⟩
  obtain ⟨T, e1, e2⟩ := T
  refine ⟨fd_law, fun_b1 F_law (fun _ _ _ _ _ _ _ => rfl), fun base _ _ => ?_⟩
  rw [← e1, ← e2]
  exact ok_law T
end Sn
open PySem PySem.W PySem.Calls PyProof.Rows
set_option maxRecDepth 100000 in
set_option maxHeartbeats 0 in
theorem PySem.Challenge.cw_sparenames_k05_trees_recognized_holds : PySem.Challenge.rw_sparenames_k05_trees_recognized.Holds := by
  w_on; o_law
  refine HandSHeadRun.head_any (r := OpenLaw.row PySem.Challenge.rw_sparenames_k05_trees_recognized) (q := Sn.qvH) (H := Sn.hkH) (ob := Sn.obH) (M := 20000) (loose := Sn.namesH) (d := HandSHeadRun.topDef (OpenLaw.row PySem.Challenge.rw_sparenames_k05_trees_recognized).prog 53) (kwd := []) Sn.ob_eqH
    (by kernel_rfl) (fun s => by kernel_rfl) Sn.runH (by kernel_rfl) (by kernel_rfl) (by kernel_rfl) (by rfl) (by first | assumption | decide +kernel) (by decide +kernel) ⟨rfl, rfl, rfl, rfl, rfl, by decide +kernel⟩ ?hw ?hc
  case hw => w_witness2
  case hc =>
    refine Sn.walkGE (l := PySem.Challenge.rw_sparenames_k05_trees_recognized) (n := 63) (k := 58) (x := "_law_script") rfl (by decide) (by kernel_rfl) ⟨rfl, by decide, by decide⟩ ?F
    intro w mg fa h Y G hmg0
    obtain ⟨K, KX, c⟩ := Y
    have hmg : mg ("law" : PySem.Str) = some (.ref fa) := by
      have e : (HandSHeadRun.topDef (OpenLaw.row PySem.Challenge.rw_sparenames_k05_trees_recognized).prog 53).name = ("law" : PySem.Str) := by kernel_rfl
      rw [← e]
      exact hmg0
    obtain ⟨fd, hb, hF⟩ := Sn.factsH (P := (PySem.Challenge.rw_sparenames_k05_trees_recognized).prog) (w := w) KX G hmg c
    exact ⟨K, fd, Sn.spLaw K, KX, hb, fun H a ns hl _ hS => ⟨a, ns, rfl, hS, hl, fun _ => rfl⟩, hF⟩
