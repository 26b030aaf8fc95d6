import PyProof.Rows.All
import Wide.All
import OpenK.AllK
import Wide.FinOn
import HandS.ForMost
import HandS.IsInst
import HandS.Flow
import HandS.Walk
import HandS.Codes
import PyProof.TupleOfStr
import PyProof.ReprRoads
import HandS.Defaults
import HandS.OwnEq
import HandS.DictComp
import HandS.Star
import HandS.Conv
import HandS.ClsMeth
import KE.GoesMore
import HandS.ExcInit
import HandS.ExcValue
import HandS.ExcField
import HandS.ExcOwn
import HandS.WordsExc
import KE.KExcSuper
import KE.KExcIs
import HandS.ExcIs
import HandS.Property
import HandS.Head0
import HandS.Head1
import HandS.Head2
import HandS.HeadEnd
import HandS.HeadHook1
import HandS.HeadHook2
import HandS.HeadHook3
import HandS.GenCall
import KE.KSuperObj
import HandS.Deep
import HandS.TupAny
import PyProof.NeKinds
import PyProof.StrOps2
import HandS.Style
import HandS.FStr
import PyProof.RulesMatch
import PyProof.CollectIter
import PyProof.WalksMore
import HandS.More
import HandS.Set
import HandS.SetFor
import HandS.TupSets
import HandS.SetTxt0
import HandS.TryOnly
import HandS.DeepEq
import HandS.List
import HandS.IterVal
import PyProof.Rows.SortShellAny
import HandS.MakeKwOnly
import KE.KRevSl
import PyProof.EqKinds
import HandS.StrMore
import HandS.GenList
import HandS.Base
import HandS.Lambda
import PySem.Challenge.RW_sparenames_k43_answers_of_routes
set_option Elab.async false
set_option linter.all false
set_option maxRecDepth 100000
set_option maxHeartbeats 4000000
namespace Sn
open PySem PySem.Spec PyProof.Rows L2
section
variable {P : Program} {w : World} {K : PySem.W.Frag} {mg : Str → Option Value} {base : Heap} {CX : CXT}
structure FnG (P : Program) (w : World) (K : PySem.W.Frag) (mg : Str → Option Value)
    (base : Heap) (CX : CXT) (k : Nat) (f : Addr) (fd : FuncData) (ps : List Str) (sp : Sp) : Prop where
  leng : ∀ xs H Q E, sp xs H Q E → xs.length = ps.length
  runs : ∀ (A : Around) (fr : List Env) (s : Shared) (H : Hp) (ar : Args) (us : List Value) (xs : List V) (Q : VK) (E : XK),
    A.guards = some [] → Room k A → Env0 P w K mg base A fr s H → BindsTo s fd ar (ps.zip us) → Vals xs us → sp xs H Q E →
    codeAny (model P w) A (.call (.ref f) ar) (CR CX fr P w H s Q E) s
theorem FnG.of {k : Nat} {f : Addr} {fd : FuncData} {ps : List Str} {sp : Sp}
    (F : FnOk P w K mg base CX k f fd ps sp) : FnG P w K mg base CX k f fd ps sp :=
  ⟨F.len, fun A fr s H ar us xs Q E _ a b c d e => F.run A fr s H ar us xs Q E a b c d e⟩
theorem fnG_of {k : Nat} {f : Addr} {nm ql : Str} {pa : Arguments} {bd : List Stmt} {sc : Scope}
    {dV kV dc pm cd ct oc : Value} {an od : Option Addr} {sl : Array (Option Value)} {N ps : List Str} {sp : Sp}
    (lk : K.lookup f = some ⟨oc, od, .func (PySem.W.fnOf nm ql pa bd sc dV kV dc pm an cd ct), sl⟩)
    (hc : PySem.W.codeIn K cd ql = true) (S : FnScope N ps sc) (leng : ∀ xs H Q E, sp xs H Q E → xs.length = ps.length)
    (hb : ∀ (A : Around) (fr : List Env) (s : Shared) (H : Hp) (xs : List V) (Q : VK) (E : XK),
      (A.deeper (envOfC ql sc s.heap.objs.size f cd)).guards = some [] → Room k (A.deeper (envOfC ql sc s.heap.objs.size f cd)) →
      sp xs H Q E → ∃ t, PSs (cxOf CX P w K mg base N ql sc f cd A fr s H E) bd t ∧
        t { nx := fun _ H' => Q .non H', rt := Q } (start N xs) H) :
    FnG P w K mg base CX (k + 1) f (PySem.W.fnOf nm ql pa bd sc dV kV dc pm an cd ct) ps sp := by
  refine ⟨leng, ?_⟩
  intro A fr s H ar us xs Q E hg hr e0 hbi rv hsp
  have hlen := leng _ _ _ _ hsp
  have kin : K.In s.heap := e0.mod.kin.keeps fun b o q => (e0.bs b o q).1
  have nol : s.heap.NoLimit := e0.mod.nolimit.keeps fun b o q => (e0.bs b o q).1
  have knd : ∀ y ∈ ps.zip us, sc.names.lookup y.1 = some .local ∨ (sc.names.lookup y.1 = some .cell ∧
      ((cellsFrom (s.heap.objs.size + 1) sc.names []).lookup y.1).isSome = true) := by
    rintro ⟨n, v⟩ hy
    exact (S.par n (List.of_mem_zip hy).1).elim .inl fun q => .inr ⟨q, PySem.W.cellsFrom_some _ _ _ (.inl q)⟩
  refine codeAny_call_function hr.depth (kin _ _ lk) rfl S.co S.gen rfl (PySem.W.codeRec_of kin hc) ?_
  refine hbi _ _ _ _ ?_
  refine wpAny_newFunctionEnv_cells S.kind knd ?_
  rintro env rfl s1 x
  refine ⟨nol.keeps x.toInCall.keep, codeAny_func ?_⟩
  obtain ⟨t, ht, hq⟩ := hb A fr s H xs Q E hg (hr.deeper _) hsp
  have J : Inv (cxOf CX P w K mg base N ql sc f cd A fr s H E) [] (start N xs) H s1 :=
    inv_start S hr.hd e0 hlen rv x
  refine wpAny_mono (ht.run [] s1 (start N xs) H _ J hq) ?_ fun e s' z => z
  intro fl s' hs
  match fl, hs with
  | .ret u, ⟨v, σ', H', J', rr, qq⟩ => exact ⟨v, H', J'.os, J'.bare, J'.base, J'.hok, rr, qq⟩
  | .next, ⟨σ', H', J', qq⟩ => exact ⟨V.non, H', J'.os, J'.bare, J'.base, J'.hok, rfl, qq⟩
  | .brk, ⟨_, _, _, qq⟩ => exact False.elim qq
  | .cont, ⟨_, _, _, qq⟩ => exact False.elim qq
theorem okG {x ql : Str} {st : Stmt} {f : Addr} {fd : FuncData} {N ps : List Str} {k : Nat} {sp : Sp}
    (F : Fun K x ql st f fd) (S : FnScope N ps (defScope st)) (leng : ∀ xs H Q E, sp xs H Q E → xs.length = ps.length)
    (hb : ∀ (cd : Value) (A : Around) (fr : List Env) (s : Shared) (H : Hp) (xs : List V) (Q : VK) (E : XK),
      (A.deeper (envOfC ql (defScope st) s.heap.objs.size f cd)).guards = some [] →
      Room k (A.deeper (envOfC ql (defScope st) s.heap.objs.size f cd)) → sp xs H Q E →
      ∃ t, PSs (cxOf CX0 P w K mg base N ql (defScope st) f cd A fr s H E).nox (defBody st) t ∧
        t { nx := fun _ H' => Q .non H', rt := Q } (start N xs) H) :
    FnG P w K mg base CX0 (k + 1) f fd ps sp := by
  obtain ⟨oc, od, kV, dc, pm, an, cd, ct, sl, rfl, lk, hcd⟩ := F.ex
  refine fnG_of lk hcd S leng fun A fr s H xs Q E hg hr h => ?_
  obtain ⟨t, a, b⟩ := hb cd A fr s H xs Q E hg hr h
  exact ⟨t, a.nox, b⟩
end
theorem law_callG {P : Program} {w : World} {K : PySem.W.Frag} {mg mb : Str → Option Value} {CX : CXT} {k : Nat}
    {fa a : Addr} {fd : FuncData} {x : Str} {sp : Sp} {s₁ : Shared} {us : List Value} {ns : List Int}
    (kin : K.In s₁.heap) (hns : s₁.heap.Ns mainGlobals mg) (hbn : s₁.heap.Ns builtinsNs mb)
    (hbb : ∀ x : Str, x ≠ "__name__" → mb x = bootBuiltins x) (nol : s₁.heap.NoLimit) (hge : s₁.gens = #[])
    (ha : s₁.heap.get? a = some { cls := .type "list", data := .seq us.toArray }) (hi : IntsAre us ns)
    (hl : ns.length ≤ sizeLine) (hr : Room k callerA)
    (F : ∀ base : Heap, K.In base → base.Ns mainGlobals mg → FnG P w K mg base CX k fa fd [x] sp)
    (hbi : ∀ (s : Shared) (u : Value), BindsTo s fd ⟨[u], []⟩ [(x, u)])
    (hsp : ∀ H : Hp, Only H → SqL K H a (ns.map V.int) → sp [.ref a] H (fun v _ => v = .bl true) fun _ _ _ => False)
    (hCX : ∀ H e s', CX [] H s₁ (fun _ _ _ => False) e s' → False) :
    codeAny (model P w) callerA (.call (.ref fa) ⟨[.ref a], []⟩)
      (fun r s' => r = .ok (.ret (.bool true)) ∧ OldK s₁.heap s'.heap ∧ s'.os = s₁.os ∧ AllBare s'.gens) s₁ := by
  have rv := vals_ints hi
  have main : ∀ H : Hp, Only H → SqL K H a (ns.map V.int) → HOk P w H s₁.heap → (∀ b, H b ≠ none → b = a) →
      (H a ≠ none → K.lookup a = none) → codeAny (model P w) callerA (.call (.ref fa) ⟨[.ref a], []⟩)
      (fun r s' => r = .ok (.ret (.bool true)) ∧ OldK s₁.heap s'.heap ∧ s'.os = s₁.os ∧ AllBare s'.gens) s₁ := by
    intro H hO hS hok hA hK
    have only : ∀ {b : Addr} {u : HO}, H b = some u → b = a := fun {b u} q => hA b (by rw [q]; simp)
    have nodict : ∀ {b : Addr} {o : Obj} {es : Array DictEntry} {ep : Nat}, s₁.heap.get? b = some o → o.data = .dict es ep → H b = none := by
      intro b o es ep q d
      cases hq : H b with
      | none => rfl
      | some u =>
        cases only hq
        rw [ha] at q; cases q; cases d
    have ns2 : ∀ {b : Addr} {m : Str → Option Value}, s₁.heap.Ns b m → (hidT s₁.heap H).Ns b m := by
      rintro b m ⟨o, es, ep, q, d, r⟩
      exact ⟨o, es, ep, hidT_get q (nodict q d), d, r⟩
    have kb : K.In (hidT s₁.heap H) := by
      intro b o q
      refine hidT_get (kin b o q) ?_
      cases hq : H b with
      | none => rfl
      | some u =>
        cases only hq
        rw [hK (by rw [hq]; simp)] at q; cases q
    obtain ⟨mc, h1, h2⟩ := nol
    have e0 : Env0 P w K mg (hidT s₁.heap H) callerA [] s₁ H :=
      { frames := rfl, mod := ⟨kb, ns2 hns, ⟨mb, ns2 hbn, hbb⟩, ⟨mc, ns2 h1, h2⟩⟩, bs := fun b o q => of_hidT q
        bsz := Nat.le_of_eq (hidT_size _ _), funs := trivial, frf := (fun b z => nomatch z), hok := hok, bare := .of_eq hge }
    refine codeAny_mono ((F _ kb (ns2 hns)).runs callerA [] s₁ H ⟨[.ref a], []⟩ [.ref a] [.ref a] _ _ rfl hr e0 (hbi s₁ (.ref a)) (.cons rfl .nil) (hsp H hO hS)) ?_
    intro r s' h
    match r, h with
    | .error e, h => exact (hCX H e s' h).elim
    | .ok .next, h => exact False.elim h
    | .ok .brk, h => exact False.elim h
    | .ok .cont, h => exact False.elim h
    | .ok (.ret u), ⟨v, H', os, bare, un, hok', rr, q⟩ =>
      have q1 : v = .bl true := q
      subst q1
      have q2 : u = Value.bool true := rr
      subst q2
      refine ⟨rfl, OldK.of_keep ?_, os, bare⟩
      intro b o e
      cases hq : H b with
      | none => exact un.keep b o e hq (fun z => nomatch z) (fun z => nomatch z)
      | some u =>
        rcases hO b with z | ⟨ob, xs, z⟩
        · rw [hq] at z; cases z
        · have e1 := (hok b _ z).1
          have e2 := (hok' b _ (un.frzs b ob _ z)).1
          rw [e] at e1; cases e1
          exact e2
  have lenV := hi.length
  cases hk : K.lookup a with
  | some o =>
    have e := kin a o hk
    rw [ha] at e
    cases e
    refine main (fun _ => none) (fun _ => .inl rfl) (.inr ⟨_, us.toArray, _, hk, rfl, rfl, rfl, ?_, by simpa using rv⟩) (fun b u z => nomatch z) (fun b z => absurd rfl z) fun z => absurd rfl z
    rw [List.size_toArray, lenV]; exact hl
  | none =>
    have only1 : ∀ b, ¬ b = a → (if b = a then some (HO.frz { cls := .type "list", data := .seq us.toArray } (.lst (ns.map V.int))) else none) = none := fun b h => if_neg h
    refine main (fun b => if b = a then some (.frz { cls := .type "list", data := .seq us.toArray } (.lst (ns.map V.int))) else none) ?_ (.inl (.inr ⟨_, if_pos rfl⟩)) ?_ ?_ fun _ => hk
    · intro b
      by_cases hb : b = a
      · exact .inr ⟨_, _, if_pos hb⟩
      · exact .inl (if_neg hb)
    · intro b u z
      by_cases hb : b = a
      · have z2 := (if_pos hb).symm.trans z
        cases z2
        subst hb
        exact ⟨ha, by rw [List.length_map]; exact hl, us, _, rv, ha⟩
      · have z2 := (if_neg hb).symm.trans z
        cases z2
    · intro b z
      exact Decidable.byContradiction fun hb => z (if_neg hb)
end Sn
namespace Sn
open PySem PySem.Spec PyProof.Rows L2
/-- a def as it stands behind the top, whatever its defaults -/
structure FunV (K : PySem.W.Frag) (x qual : Str) (st : Stmt) (f : Addr) (fd : FuncData) : Prop where
  ex : ∃ (oc : Value) (od : Option Addr) (dV kV doc pm : Value) (an : Option Addr) (cdv ct : Value) (osl : Array (Option Value)),
    fd = PySem.W.fnOf x qual (defArgs st) (defBody st) (defScope st) dV kV doc pm an cdv ct ∧ K.lookup f = some ⟨oc, od, .func fd, osl⟩ ∧ PySem.W.codeIn K cdv qual = true
  kp : PySem.W.keepIn K (.ref f) = true
abbrev FunS (K : PySem.W.Frag) (x qual : Str) (st : Stmt) (dvs : List V) (f : Addr) (fd : FuncData) : Prop := FunD K x qual (defArgs st) (defBody st) (defScope st) dvs [] f fd
section
variable {P : Program} {w : World} {K : PySem.W.Frag} {mg : Str → Option Value} {base : Heap} {x qual : Str} {st : Stmt} {f : Addr} {fd : FuncData} {dvs : List V}
theorem FunV.ok {N ps : List Str} {k : Nat} {sp : Sp} (F : FunV K x qual st f fd) (S : FnScope N ps (defScope st)) (len : ∀ vs H Q E, sp vs H Q E → vs.length = ps.length)
    (hbody : ∀ (cdv : Value) (A : Around) (outer : List Env) (s : Shared) (H : Hp) (vs : List V) (Q : VK) (E : XK), Room k (A.deeper (envOfC qual (defScope st) s.heap.objs.size f cdv)) → sp vs H Q E →
      ∃ t, PSs (cxOf CX0 P w K mg base N qual (defScope st) f cdv A outer s H E).nox (defBody st) t ∧ t { nx := fun _ H' => Q .non H', rt := Q } (start N vs) H) : FnOk P w K mg base CX0 (k + 1) f fd ps sp := by
  obtain ⟨oc, od, dV, kV, doc, pm, an, cdv, ct, osl, rfl, lk, hcd⟩ := F.ex
  refine fn_of lk hcd S len fun A outer s H vs Q E hr hsp => ?_
  obtain ⟨t, h, q⟩ := hbody cdv A outer s H vs Q E hr hsp
  exact ⟨t, h.nox, q⟩
/-- all parameters are given -/
theorem FunS.all {ps : List Str} (F : FunS K x qual st dvs f fd) (hd : dvs ≠ []) (h : ∀ (T : Addr) (kV doc pm : Value) (an : Option Addr) (cdv ct : Value) (us its : List Value), us.length = ps.length → its.length = dvs.length →
      ∃ k, bindArgs (PySem.W.fnOf x qual (defArgs st) (defBody st) (defScope st) (.ref T) kV doc pm an cdv ct) ⟨us, []⟩ = seqItems? (.ref T) >>= k ∧ k (some its.toArray) = pure (ps.zip us)) : Binds K fd ps [] := by
  obtain ⟨ds, hv, hb⟩ := FunD.binds1 (ps := ps) F ps.length dvs.length hd (by omega) fun T kV doc pm an cdv ct us its h1 h2 => by
    obtain ⟨k, e1, e2⟩ := h T kV doc pm an cdv ct us its h1 h2
    refine ⟨k, e1, ?_⟩
    rw [← h2, List.drop_length, List.append_nil]
    exact e2
  rw [List.drop_length] at hv
  cases hv
  exact hb
end
end Sn
namespace Sn
open PySem PySem.Spec PyProof.Rows L2
theorem enum_newT (l : Addr) (items : Array Value) (n : Nat) (dct : Option Addr) (sl : Array (Option Value)) :
    Meets (Builtin.«enumerate.__new__» ⟨[.type "enumerate", .ref l], []⟩) (fun _ R s =>
      s.heap.get? l = some { cls := .type "tuple", dict := dct, data := .seq items n, slots := sl } ∧
      R (.ok (.ret (.ref (s.heap.push { cls := .type "tuple_iterator", data := .fields #[.ref l, .int 0 0] }).objs.size)))
        { s with heap := (s.heap.push { cls := .type "tuple_iterator", data := .fields #[.ref l, .int 0 0] }).push { cls := .type "enumerate", data := .fields #[.none, .bool false, .ref s.heap.objs.size, rawInt 0, .none, .none] } }) :=
  .of_wp fun prog w A R s h => by
    obtain ⟨hp, g, d, tk, os⟩ := s
    obtain ⟨hl, h⟩ := h
    have hsub := sub_enumerate
    have hT : Heap.IsTuple (Shared.heap ⟨hp, g, d, tk, os⟩) l items := ⟨_, hl, rfl, n, rfl⟩
    wp_walk using AutoSeq1.wpAny_loadPart' hl
    refine wpAny_stack_any fun st => wpAny_pure ?_
    split
    · rename_i c _ _ _ _ _
      cases (c == Value.type "enumerate") <;> (wp_walk using AutoSeq1.wpAny_loadPart' hl, wpAny_pyIter_tuple hT; exact ⟨_, rfl, h⟩)
    · wp_walk using AutoSeq1.wpAny_loadPart' hl, wpAny_pyIter_tuple hT
      exact ⟨_, rfl, h⟩
section
variable {prog : Program} {w : World} {A : Around} {E : Value → Shared → Prop} {s : Shared}
theorem call_enumT {l : Addr} {items : Array Value} {Q : Value → Shared → Prop} (hL : s.heap.IsTuple l items)
    (h : ∀ h', IsEnum h' (s.heap.objs.size + 1) s.heap.objs.size 0 .none → h'.IsTupleIter s.heap.objs.size l 0 →
      h'.objs.size = s.heap.objs.size + 2 → (∀ b o, s.heap.get? b = some o → h'.get? b = some o) →
      Q (.ref (s.heap.objs.size + 1)) { s with heap := h' }) :
    wpAny (model prog w) A (call (.type "enumerate") [.ref l]) Q E s := by
  obtain ⟨⟨c, dct, dt, sl⟩, hl, hc, n, hd⟩ := hL
  have hc2 : c = .type "tuple" := hc
  have hd2 : dt = .seq items n := hd
  subst hc2 hd2
  refine callType_new F.called_enumerate (by decide) (F.typeCall_enumerate_1 _) (F.newCall_enumerate_1 _)
    (fun obj => F.args_object_init_2 obj _) F.entry_enumerate_new (enum_newT l items n dct sl) ⟨hl, ?_⟩
  generalize eo : ({ cls := .type "tuple_iterator", data := .fields #[.ref l, .int 0 0] } : Obj) = o1
  generalize ee : ({ cls := .type "enumerate", data := .fields #[.none, .bool false, .ref s.heap.objs.size, rawInt 0, .none, .none] } : Obj) = o2
  have hz : (s.heap.push o1).objs.size = s.heap.objs.size + 1 := Heap.size_push ..
  have g2 : ((s.heap.push o1).push o2).get? (s.heap.objs.size + 1) = some o2 := by
    have q := Heap.get?_push_size (s.heap.push o1) (o := o2) (by rw [← ee]; rfl)
    rw [hz] at q
    exact q
  have g1 : ((s.heap.push o1).push o2).get? s.heap.objs.size = some o1 :=
    Heap.get?_push_of_some _ (Heap.get?_push_size _ (by rw [← eo]; rfl))
  show _ ∧ _
  rw [hz]
  refine ⟨⟨o2, g2, by rw [← ee]⟩, h _ ?_ ⟨o1, g1, by rw [← eo], by rw [← eo]; rfl⟩ (by rw [Heap.size_push, hz]) fun b o q => Heap.get?_push_of_some _ (Heap.get?_push_of_some _ q)⟩
  show _ = some _
  rw [g2, ← ee]
end
def Iet (K : PySem.W.Frag) (a : Addr) : It :=
  ⟨fun i H => ∃ (xs : List V) (x : V), SqT K H a xs ∧ xs[i]? = some x,
   fun i H v H' => ∃ T x, v = .ref T ∧ H T = none ∧ H' = upd H T (.tup [.int (i : Nat), x]) ∧ ∀ xs, SqT K H a xs → xs[i]? = some x,
   fun i H => ∃ xs : List V, SqT K H a xs ∧ xs.length ≤ i⟩
theorem turn_enumT {P : Program} {w : World} {K : PySem.W.Frag} {elts : List Expr} {kk : Nat} {tpos : Pos} (a e it : Addr) :
    Turn P w K (.Tuple elts kk tpos) (Iet K a) [e, it] e (fun i h => (∃ old, IsEnum h e it ((i : Nat) : Int) old) ∧ h.IsTupleIter it a i ∧ e ≠ it ∧ a ≠ it ∧ e ≠ a) where
  mem := by simp
  obj := fun i h st b hb => by
    obtain ⟨⟨old, he⟩, ⟨o, ho, hc, hd⟩, _⟩ := st
    have e' : b = e ∨ b = it := by simpa using hb
    rcases e' with rfl | rfl
    · exact ⟨_, he, fun v q => nomatch q⟩
    · exact ⟨o, ho, fun v q => by rw [hd] at q; cases q⟩
  keep := fun i h h' st k => let ⟨⟨old, he⟩, hi, hne⟩ := st; ⟨⟨old, k e (by simp) _ he⟩, hi.at fun o q => k it (by simp) o q, hne⟩
  item := by
    intro X hP hw hK hc i pins s σ H E I hf st hg
    subst hP hw hK
    obtain ⟨⟨old, he⟩, hit, hne, hai, hea⟩ := st
    obtain ⟨xs, x, hq, hx⟩ := hg
    obtain ⟨its, rv, p, hz⟩ := I.tuple hq
    obtain ⟨u, hu, ru⟩ := rv.get hx
    have hel : e < s.heap.objs.size := Heap.lt_size he
    have hil : it < s.heap.objs.size := by obtain ⟨_, q, _⟩ := hit; exact Heap.lt_size q
    have hlt : i < its.toArray.size := by
      have := (List.getElem?_eq_some_iff.mp hu).1
      simpa using this
    have pT : s.heap.IsTuple a its.toArray := p
    refine wpAny_pyNext_enum_itemD (Draws.tuple (A := X.A.in1) (I.ok.hd hc) it a hai its.toArray) he ⟨hit, pT⟩ hlt hne (by simp [hne, hea]) ?_
    intro u2 h' tk hu2 ho st2 hT hsz hk
    have eu : u2 = u := by
      have q : its.toArray[i]? = some u := by simpa using hu
      exact Option.some.inj (hu2.symm.trans q)
    subst eu
    refine ⟨_, rfl, wpAny_letOwnedTupleGo_enum (s := { s with heap := h', toks := tk + 1 }) ho fun h2 he' sb => ?_⟩
    have hT2 : h2.get? s.heap.objs.size = some { cls := .type "tuple", data := .seq #[.int i tk, u2] } := (sb.2 _ (Nat.ne_of_gt hel)).trans hT
    have new : ObjOk X.prog X.w (upd H s.heap.objs.size (.tup [.int (i : Nat), x])) h2 s.heap.objs.size (.tup [.int (i : Nat), x]) :=
      ⟨by show 2 ≤ sizeLine; decide, [.int i tk, u2], .cons ⟨_, rfl⟩ (.cons ru .nil), ⟨_, hT2, rfl, _, rfl⟩⟩
    have I1 : Inv X pins σ (upd H s.heap.objs.size (.tup [.int (i : Nat), x])) { s with heap := h2, toks := tk + 1 } :=
      I.turnedNew (ch := [e, it]) (fun b ob hb q => (sb.2 b (fun z => hb (by simp [z]))).trans (hk b ob (fun z => hb (by simp [z])) (fun z => hb (by simp [z])) q)) hf (Nat.le_refl _) new
    refine ⟨.ref s.heap.objs.size, _, I1, rfl, ⟨_, x, rfl, I.hok.fresh (Nat.le_refl _), rfl, fun ys hy => by rw [I.tuple_inj hy hq]; exact hx⟩, ⟨⟨u2, ?_⟩, st2.1.at fun o q => (sb.2 it (Ne.symm hne)).trans q, hne, hai, hea⟩, fun b hb => ?_⟩
    · have e1 : ((i + 1 : Nat) : Int) = (i : Int) + 1 := by omega
      rw [e1]; exact he'
    · have e' : b = e ∨ b = it := by simpa using hb
      have hb' : b < s.heap.objs.size := by rcases e' with rfl | rfl <;> assumption
      rw [upd_ne (Nat.ne_of_lt hb')]
      exact (hf b hb).1
  done := by
    intro X hP hw hK hc i pins s σ H E I hf st hg
    subst hP hw hK
    obtain ⟨⟨old, he⟩, hit, hne, hai, hea⟩ := st
    obtain ⟨xs, hq, hx⟩ := hg
    obtain ⟨its, rv, p, hz⟩ := I.tuple hq
    obtain ⟨f0, f1, f2, f3, f4, f5⟩ := hf it (by simp)
    have hl := rv.length
    have pT : s.heap.IsTuple a its.toArray := p
    have hT : s.TypeIs (.ref e) "enumerate" := ⟨_, he, rfl⟩
    unfold pyNext
    refine wpAny_bind (wpAny_attempt (wpAny_callSpecial?_slot (name := Str.ofString "__next__") hT F.slot_enumerate_next
      (wpAny_call_entry F.slot_enumerate_next hT F.entry_enumerate_next ?_ (F.args_enumerate_next_1 _))))
    show wpAny _ _ (field (.ref e) 2 >>= _) _ _ _
    refine wpAny_bind (wpAny_field he rfl (x := .ref it) rfl (wpAny_bind (wpAny_nextOf_tuple_end (I.ok.hd hc) hit pT (by simp; omega) ?_)))
    intro h' y he' hx'
    obtain ⟨o, ho, hco⟩ := hx'
    refine wpAny_bind (wpAny_isInstance (T := "StopIteration") (b := true) ⟨o, ho, hco⟩ isSubtype_stop ?_)
    exact wpAny_pure ⟨rfl, I.turned (t' := s.toks) (fun b o hb q => he' b o hb q) f0 f1 f3 f4 f5⟩
  self := fun A i s Q E st h => let ⟨⟨_, he⟩, _⟩ := st; wpAny_pyIter_enum he h
def iEnumT (K : PySem.W.Frag) (ta : TA) : TI := fun σ H R => ta σ H fun vs H1 => ∃ a xs, vs = [.ref a] ∧ SqT K H1 a xs ∧ R (Iet K a) H1
theorem pi_enumT {X : Cx} {e : Expr} {ta : TA} {p pos tpos : Pos} {elts : List Expr} {kk : Nat} (hg : Gl X "enumerate") (hm : X.mg "enumerate" = none)
    (ha : PA X [e] ta) (hs : starEach [e] X.env = [(false, eval e X.env)] := by rfl) :
    PI X (.Tuple elts kk tpos) (.Call (.Name "enumerate" p) [e] [] pos) (iEnumT X.K ta) := by
  refine ⟨fun pins s σ H R I h => ?_⟩
  refine Call_ (ld_blt I hg hm boot_enumerate (PyProof.Rows.callWith_type1 (thn (ha.run pos pins s σ H _ I h) ?_) hs rfl))
  rintro us s1 ⟨vs, H1, I1, r1, a, xs, rfl, hq, q⟩
  match us, r1 with
  | [u], .cons r .nil =>
    cases r
    obtain ⟨its, rv, pt, hz⟩ := I1.tuple hq
    have alt : a < s1.heap.objs.size := by
      obtain ⟨o, ho, _⟩ := pt
      exact Heap.lt_size ho
    refine call_enumT pt fun h' he hit hsz hk => wpAny_pyIter_enum he ?_
    have I2 : Inv X pins σ H1 { s1 with heap := h' } := I1.kept (t' := s1.toks) hk
    refine ⟨s1.heap.objs.size + 1, [s1.heap.objs.size + 1, s1.heap.objs.size], _, _, H1, rfl, I2, turn_enumT a (s1.heap.objs.size + 1) s1.heap.objs.size,
      ⟨⟨.none, he⟩, hit, Nat.succ_ne_self _, Nat.ne_of_lt alt, Nat.ne_of_gt (Nat.lt_succ_of_lt alt)⟩, fun b hb => ?_, q⟩
    have hle : s1.heap.objs.size ≤ b := by
      have e' : b = s1.heap.objs.size + 1 ∨ b = s1.heap.objs.size := by simpa using hb
      rcases e' with rfl | rfl
      · exact Nat.le_add_right _ _
      · exact Nat.le_refl _
    exact I1.fpOk hle (I1.hok.fresh hle)
theorem walk_enumT {K : PySem.W.Frag} {a : Addr} {xs : List V} : Walk (Iet K a) xs.length (fun H => SqT K H a xs) (YPair (fun i => some (.int (i : Nat))) (fun i => xs[i]?)) := by
  refine ⟨fun i _ hi q => ⟨xs, xs[i], q, by simp [hi]⟩, fun _ q => ⟨xs, q, Nat.le_refl _⟩, fun i H v H' _ q y => ?_⟩
  obtain ⟨T, x, h1, h2, h3, h4⟩ := y
  exact ⟨T, .int (i : Nat), x, h1, h2, h3, rfl, h4 xs q⟩
end Sn
namespace Sn
open PySem PySem.Spec PyProof.Rows L2
section
variable {X : Cx} {CX : CXT} {k i : Nat} {f C : Addr} {fd : FuncData} {ps : List Str} {sp : Sp} {E : XK} {x m : Str} {e o : Expr} {es : List Expr} {te ta : TE} {t : TA} {p sp_ pos apos : Pos}
/-- e.f, where the knowledge is named (in a comprehension) -/
theorem pe_fldK {K : PySem.W.Frag} {f : Str} (he : PE X e te) (hb : attributeBase e f X.env (eval e X.env) = eval e X.env := by rfl) (hK : X.K = K := by rfl) : PE X (.Attribute e f pos) (tFld K te f) := by
  subst hK
  exact pe_fld he hb
theorem ix_listK {K : PySem.W.Frag} (hK : X.K = K := by rfl) : IxR X (rIxL K) := by
  subst hK
  exact ix_list
theorem ix_tupK {K : PySem.W.Frag} (hK : X.K = K := by rfl) : IxR X (rIxT K) := by
  subst hK
  exact ix_tup
end
end Sn
namespace Sn
open PySem PySem.Spec PyProof.Rows L2
abbrev Fr := PySem.W.Frag
abbrev FnV : Type := Option (Str × Str × Arguments × FuncBody × Scope × Addr × List Str × Addr)
/-- the def that stands at a place -/
def fnV (K : Fr) (a : Addr) : FnV := match K.lookup a with
  | some ⟨_, _, .func fd, _⟩ => some (fd.name, fd.qualname, fd.params, fd.body, fd.scope, fd.globals, fd.closure.map (·.1), fd.builtins)
  | _ => none
/-- where a def stands, its names, its text, the names of its cells -/
structure DfM where
  at_ : Fr → Addr
  name : Str
  qual : Str
  st : Stmt
  cl : List Str
def DfM.val (d : DfM) : FnV := some (d.name, d.qual, defArgs d.st, .stmts (defBody d.st), defScope d.st, mainGlobals, d.cl, builtinsNs)
abbrev AlM : Type := Bool × List FnV × List (Option (List (Option (Str × Int))))
def obsM (fs : List (Fr → Bool)) (ds : List DfM) (ts : List He.Tab) (K : Fr) : AlM := (fs.all fun f => f K, ds.map fun d => fnV K (d.at_ K), ts.map fun t => He.dicW K (t.1 K))
def valM (ds : List DfM) (ts : List He.Tab) (w : World) : AlM := (true, ds.map DfM.val, ts.map fun t => some (He.keysIn w.params t.2))
def asM : Nat → List Addr
  | 0 => []
  | n + 1 => n :: asM n
def obsMG (n : Nat) (fs : List (Fr → Bool)) (ds : List DfM) (ts : List He.Tab) (g : Addr → Option Obj) : AlM := obsM fs ds ts (He.frG g (asM n))
def hookM (n : Nat) (fs : List (Fr → Bool)) (ds : List DfM) (ts : List He.Tab) : PySem.W.Hook where
  α := AlM
  obs := fun s => obsMG n fs ds ts s.heap.get?
  val := fun w => valM ds ts w
  says := fun w h => ∃ K : Fr, K.In h ∧ obsM fs ds ts K = valM ds ts w
  of := fun _ _ e => ⟨_, He.frG_in, e⟩
  keeps := fun _ _ _ ⟨K, hK, c⟩ k => ⟨K, PySem.W.Frag.In.keeps hK k, c⟩
theorem obsMG_eq {n : Nat} {fs : List (Fr → Bool)} {ds : List DfM} {ts : List He.Tab} {g : Addr → Option Obj} {s : Shared} (h : ∀ a, g a = s.heap.get? a) : obsMG n fs ds ts g = (hookM n fs ds ts).obs s := by
  have e : g = s.heap.get? := funext h
  rw [e] <;> rfl
section
variable {fs : List (Fr → Bool)} {ds : List DfM} {ts : List He.Tab} {w : World} {K : Fr}
theorem fact (c : obsM fs ds ts K = valM ds ts w) (i : Nat) {f : Fr → Bool} (h : fs[i]? = some f) : f K = true := by
  have c1 : (fs.all fun f => f K) = true := congrArg (fun z : AlM => z.1) c
  exact List.all_eq_true.mp c1 f (List.mem_of_getElem? h)
theorem dfnM (c : obsM fs ds ts K = valM ds ts w) (i : Nat) {d : DfM} (h : ds[i]? = some d) : fnV K (d.at_ K) = d.val := by
  have e : ds.map (fun d => fnV K (d.at_ K)) = ds.map DfM.val := congrArg (fun z : AlM => z.2.1) c
  have e2 : (ds.map fun d => fnV K (d.at_ K))[i]? = (ds.map DfM.val)[i]? := by rw [e]
  rw [List.getElem?_map, List.getElem?_map, h] at e2
  exact Option.some.inj e2
end
section
variable {K : Fr} {a C : Addr} {name qual : Str} {st : Stmt}
theorem b2 {a b : Bool} (h : (a && b) = true) : a = true ∧ b = true := Bool.and_eq_true_iff.mp h
def dfB (K : Fr) (a : Addr) (qual : Str) (dvs : List V) : Bool := PySem.W.keepIn K (.ref a) && (match K.lookup a with
  | some ⟨_, _, .func fd, _⟩ => PySem.W.codeIn K fd.code qual && He.dflB K fd.defaults dvs
  | _ => false)
theorem df_ex {dvs : List V} (e : fnV K a = some (name, qual, defArgs st, .stmts (defBody st), defScope st, mainGlobals, [], builtinsNs)) (c : dfB K a qual dvs = true) :
    ∃ (oc : Value) (od : Option Addr) (dV kV doc pm : Value) (an : Option Addr) (cdv ct : Value) (osl : Array (Option Value)), K.lookup a = some ⟨oc, od, .func (PySem.W.fnOf name qual (defArgs st) (defBody st) (defScope st) dV kV doc pm an cdv ct), osl⟩ ∧ PySem.W.codeIn K cdv qual = true ∧ PySem.W.keepIn K (.ref a) = true ∧ DflV K dV dvs := by
  obtain ⟨kp, c2⟩ := b2 c
  unfold fnV at e
  cases q : K.lookup a with
  | none => rw [q] at c2; cases c2
  | some o =>
    obtain ⟨oc, od, dt, osl⟩ := o
    rw [q] at c2 e
    cases dt with
    | func fd =>
      obtain ⟨n1, n2, n3, n4, n5, n6, n7, n8, n9, n10, n11, n12, n13, n14, n15⟩ := fd
      have e2 : (some (n1, n2, n3, n4, n5, n6, n7.map (·.1), n15) : FnV) = some (name, qual, defArgs st, .stmts (defBody st), defScope st, mainGlobals, [], builtinsNs) := e
      simp only [Option.some.injEq, Prod.mk.injEq, List.map_eq_nil_iff] at e2
      obtain ⟨h1, h2, h3, h4, h5, h6, h7, h8⟩ := e2
      subst h1 h2 h3 h4 h5 h6 h7 h8
      obtain ⟨k1, k2⟩ := b2 (show (PySem.W.codeIn K n13 n2 && He.dflB K n8 dvs) = true from c2)
      exact ⟨oc, od, n8, n9, n10, n11, n12, n13, n14, osl, rfl, k1, kp, He.dflB_ok k2⟩
    | _ => cases c2
theorem fun_of (e : fnV K a = some (name, qual, defArgs st, .stmts (defBody st), defScope st, mainGlobals, [], builtinsNs)) (c : dfB K a qual [] = true) : ∃ fd, Fun K name qual st a fd := by
  obtain ⟨oc, od, dV, kV, doc, pm, an, cdv, ct, osl, l, cd, kp, d⟩ := df_ex e c
  rcases d with ⟨_, rfl⟩ | ⟨n, _⟩
  · exact ⟨_, ⟨oc, od, kV, doc, pm, an, cdv, ct, osl, rfl, l, cd⟩, kp⟩
  · exact absurd rfl n
theorem fun_b1 {fd : FuncData} {x : Str} (F : Fun K name qual st a fd) (h : ∀ (kV doc pm : Value) (an : Option Addr) (cdv ct : Value) (u : Value), bindArgs (PySem.W.fnOf name qual (defArgs st) (defBody st) (defScope st) .none kV doc pm an cdv ct) ⟨[u], []⟩ = pure [(x, u)]) (s : Shared) (u : Value) : BindsTo s fd ⟨[u], []⟩ [(x, u)] := by
  obtain ⟨oc, od, kV, doc, pm, an, cdv, ct, osl, rfl, lk, hcd⟩ := F.ex
  exact .of_eq (h kV doc pm an cdv ct u)
def boM (a b : Option Bool) : Bool := decide (a = b)
def tyM (a : Option Value) (b : Value) : Bool := decide (a = some b)
def clsB (K : Fr) (C : Addr) : Bool := PySem.W.plainGet K C Str.empty && (PySem.W.hasDictIn K C && (PySem.W.plainOver K C && (He.eqO (PySem.W.findIn K (.ref C) "__setattr__") (some (some (.builtin "object.__setattr__"))) && (PySem.W.makesIn K C && (PySem.W.keepIn K (.ref C) && (PySem.W.selfFirst K C &&
  (He.eqO (PySem.W.findIn K (.ref C) "__class__") (some (some (.builtin "object.__class__"))) && (boM (PySem.W.mroIn K C (.type "object")) (some true) && (He.eqO (PySem.W.findIn K (.ref C) "__ne__") (some (some (.builtin "object.__ne__"))) && (tyM (PySem.W.typeIn K (.ref C)) (.type "type") &&
  (He.eqO (PySem.W.specialIn K (.builtin "object.__class__") "__get__") (some (some (.builtin "getset_descriptor.__get__"))) && boM (PySem.W.takesIn K (.builtin "object.__class__")) (some true))))))))))))
structure ClsM (K : Fr) (C : Addr) : Prop where
  pg : PySem.W.plainGet K C Str.empty = true
  hd : PySem.W.hasDictIn K C = true
  po : PySem.W.plainOver K C = true
  sa : PySem.W.findIn K (.ref C) "__setattr__" = some (some (.builtin "object.__setattr__"))
  mke : PySem.W.makesIn K C = true
  kc : PySem.W.keepIn K (.ref C) = true
  sf : PySem.W.selfFirst K C = true
  ih : PySem.W.findIn K (.ref C) "__class__" = some (some (.builtin "object.__class__"))
  im : PySem.W.mroIn K C (.type "object") = some true
  ne : PySem.W.findIn K (.ref C) "__ne__" = some (some (.builtin "object.__ne__"))
  ty : PySem.W.typeIn K (.ref C) = some (.type "type")
  gi : PySem.W.specialIn K (.builtin "object.__class__") "__get__" = some (some (.builtin "getset_descriptor.__get__"))
  it : PySem.W.takesIn K (.builtin "object.__class__") = some true
theorem clsB_ok (h : clsB K C = true) : ClsM K C := by
  obtain ⟨h1, h⟩ := b2 h
  obtain ⟨h2, h⟩ := b2 h
  obtain ⟨h3, h⟩ := b2 h
  obtain ⟨h4, h⟩ := b2 h
  obtain ⟨h5, h⟩ := b2 h
  obtain ⟨h6, h⟩ := b2 h
  obtain ⟨h7, h⟩ := b2 h
  obtain ⟨h8, h⟩ := b2 h
  obtain ⟨h9, h⟩ := b2 h
  obtain ⟨h10, h⟩ := b2 h
  obtain ⟨h11, h⟩ := b2 h
  obtain ⟨h12, h13⟩ := b2 h
  exact ⟨h1, h2, h3, He.eqO_ok h4, h5, h6, h7, He.eqO_ok h8, of_decide_eq_true h9, He.eqO_ok h10, of_decide_eq_true h11, He.eqO_ok h12, of_decide_eq_true h13⟩
def metB (K : Fr) (C a : Addr) (m : Str) : Bool := He.eqO (PySem.W.findIn K (.ref C) m) (some (some (.ref a))) && PySem.W.isFn K (.ref a)
theorem metB_ok {m : Str} (h : metB K C a m = true) : PySem.W.findIn K (.ref C) m = some (some (.ref a)) ∧ PySem.W.isFn K (.ref a) = true := by
  obtain ⟨h1, h2⟩ := b2 h
  exact ⟨He.eqO_ok h1, h2⟩
def noAtB (K : Fr) (C : Addr) (f : Str) : Bool := He.eqO (PySem.W.findIn K (.ref C) f) (some none)
def errB (K : Fr) (C B : Addr) : Bool := He.eqO (PySem.W.findIn K (.ref C) "__getattribute__") (some (some (.builtin "BaseException.__getattribute__"))) && (He.eqO (PySem.W.findIn K (.ref C) "__getattr__") (some none) && (boM (PySem.W.subIn K (.ref C) (.type "BaseException")) (some true) && (PySem.W.hasDictIn K C &&
  (He.eqO (PySem.W.findIn K (.ref C) "__class__") (some (some (.builtin "object.__class__"))) && (He.eqO (PySem.W.specialIn K (.builtin "object.__class__") "__get__") (some (some (.builtin "getset_descriptor.__get__"))) && (boM (PySem.W.takesIn K (.builtin "object.__class__")) (some true) && (boM (PySem.W.mroIn K C (.type "object")) (some true) &&
  (tyM (PySem.W.typeIn K (.ref C)) (.type "type") && (PySem.W.keepIn K (.ref C) && boM (PySem.W.subIn K (.ref C) (.ref B)) (some true))))))))))
structure ErrM (K : Fr) (C B : Addr) : Prop where
  ga : PySem.W.findIn K (.ref C) "__getattribute__" = some (some (.builtin "BaseException.__getattribute__"))
  gg : PySem.W.findIn K (.ref C) "__getattr__" = some none
  ex : PySem.W.subIn K (.ref C) (.type "BaseException") = some true
  hd : PySem.W.hasDictIn K C = true
  ih : PySem.W.findIn K (.ref C) "__class__" = some (some (.builtin "object.__class__"))
  gi : PySem.W.specialIn K (.builtin "object.__class__") "__get__" = some (some (.builtin "getset_descriptor.__get__"))
  it : PySem.W.takesIn K (.builtin "object.__class__") = some true
  im : PySem.W.mroIn K C (.type "object") = some true
  ty : PySem.W.typeIn K (.ref C) = some (.type "type")
  kc : PySem.W.keepIn K (.ref C) = true
  sb : PySem.W.subIn K (.ref C) (.ref B) = some true
theorem errB_ok {B : Addr} (h : errB K C B = true) : ErrM K C B := by
  obtain ⟨h1, h⟩ := b2 h
  obtain ⟨h2, h⟩ := b2 h
  obtain ⟨h3, h⟩ := b2 h
  obtain ⟨h4, h⟩ := b2 h
  obtain ⟨h5, h⟩ := b2 h
  obtain ⟨h6, h⟩ := b2 h
  obtain ⟨h7, h⟩ := b2 h
  obtain ⟨h8, h⟩ := b2 h
  obtain ⟨h9, h⟩ := b2 h
  obtain ⟨h10, h11⟩ := b2 h
  exact ⟨He.eqO_ok h1, He.eqO_ok h2, of_decide_eq_true h3, h4, He.eqO_ok h5, He.eqO_ok h6, of_decide_eq_true h7, of_decide_eq_true h8, of_decide_eq_true h9, h10, of_decide_eq_true h11⟩
theorem ErrM.x {B : Addr} (h : ErrM K C B) : ExcC K C := ⟨h.ga, h.gg, h.ex, h.hd, h.ih, h.gi, h.it, h.im⟩
theorem ErrM.xf {B : Addr} (h : ErrM K C B) : XfC K C := ⟨h.ga, h.gg, h.ex, h.hd⟩
end
theorem walkGE {l : PySem.W.OpenLaw} {n k : Nat} {q : Program} {loose : List Str} {XP : (Str → Option Value) → Heap → Prop} {YP : World → Heap → Prop} {d : DefRec} {x : Str}
    (hn : l.most = some n) (hn2 : n ≤ sizeLine) (hdf : d.params.defaults = []) (hr : Room k callerA)
    (F : ∀ (w : World) (mg : Str → Option Value) (fa : Addr) (h : Heap), YP w h → h.Ns mainGlobals mg → mg d.name = some (.ref fa) →
      ∃ (K : PySem.W.Frag) (fd : FuncData) (sp : Sp), K.In h ∧ (∀ (s : Shared) (u : Value), BindsTo s fd ⟨[u], []⟩ [(x, u)]) ∧
        (∀ (H : Hp) (a : Addr) (ns : List Int), ns.length ≤ n → Only H → SqL K H a (ns.map V.int) → sp [.ref a] H (fun v _ => v = .bl true) fun _ _ _ => False) ∧
        ∀ base : Heap, K.In base → base.Ns mainGlobals mg → FnG l.prog w K mg base CX0 k fa fd [x] sp) :
    PySem.W.WalkO q loose XP YP l.row.toRowW d [] (fun f vs => PySem.call f vs) := by
  refine Att.attach_call hn hdf fun w s₀ s₁ mg mb fa o pm cd doc a vs ns G Y ho hd hcd hmg hobj hints hlen hg => ?_
  obtain ⟨K, fd, sp, KX, hb, hsp, hF⟩ := F w mg fa _ Y G.T.g hmg
  exact law_callG KX G.T.g G.T.b G.T.builtins G.T.nolimit hg hobj hints (Nat.le_trans hlen hn2) hr hF hb (fun H hO hS => hsp H a ns hlen hO hS) fun H e s' z => z
end Sn
namespace Sn
open PySem PySem.Spec PyProof.Rows L2
def top (i : Nat) : Stmt := PySem.Challenge.pw_sparenames_k43_answers_of_routes.main.body.getD i (.Pass ⟨0, 0, 0, 0⟩)
abbrev s_is_string : Stmt := top 4
abbrev s_is_tuple_of_strings : Stmt := top 6
abbrev s_is_choice : Stmt := top 7
abbrev s_are_choices : Stmt := top 8
abbrev s_is_row : Stmt := top 9
abbrev s_are_parts : Stmt := top 10
abbrev s_Route_init : Stmt := inClass (top 11) 0
abbrev s_Route_counted : Stmt := inClass (top 11) 1
abbrev s_Route_answers : Stmt := inClass (top 11) 2
abbrev s_law_begun : Stmt := top 13
abbrev s_law_mixed : Stmt := top 14
abbrev s_law_take : Stmt := top 15
abbrev s_law_pick : Stmt := top 16
abbrev s_law_row_of : Stmt := top 17
abbrev s_law_many_of : Stmt := top 18
abbrev s_law_first_answers : Stmt := top 19
abbrev s_law_told : Stmt := top 20
abbrev s_law : Stmt := top 21
abbrev n_is_string : List Str := ["value", "most", "sign"]
theorem sc_is_string : FnScope n_is_string ["value", "most"] (defScope s_is_string) := ⟨rfl, rfl, rfl, by decide +kernel, rfl, by decide +kernel, by decide +kernel⟩
abbrev n_is_tuple_of_strings : List Str := ["value", "part"]
theorem sc_is_tuple_of_strings : FnScope n_is_tuple_of_strings ["value"] (defScope s_is_tuple_of_strings) := ⟨rfl, rfl, rfl, by decide +kernel, rfl, by decide +kernel, by decide +kernel⟩
abbrev n_is_choice : List Str := ["value", "most"]
theorem sc_is_choice : FnScope n_is_choice ["value", "most"] (defScope s_is_choice) := ⟨rfl, rfl, rfl, by decide +kernel, rfl, by decide +kernel, by decide +kernel⟩
abbrev n_are_choices : List Str := ["value", "most", "choice"]
theorem sc_are_choices : FnScope n_are_choices ["value", "most"] (defScope s_are_choices) := ⟨rfl, rfl, rfl, by decide +kernel, rfl, by decide +kernel, by decide +kernel⟩
abbrev n_is_row : List Str := ["value", "k"]
theorem sc_is_row : FnScope n_is_row ["value", "k"] (defScope s_is_row) := ⟨rfl, rfl, rfl, by decide +kernel, rfl, by decide +kernel, by decide +kernel⟩
abbrev n_are_parts : List Str := ["start", "arguments", "rows", "legs", "leg", "k", "row"]
theorem sc_are_parts : FnScope n_are_parts ["start", "arguments", "rows", "legs"] (defScope s_are_parts) := ⟨rfl, rfl, rfl, by decide +kernel, rfl, by decide +kernel, by decide +kernel⟩
abbrev n_Route_init : List Str := ["self", "start", "arguments", "rows", "legs", "row", "leg"]
theorem sc_Route_init : FnScope n_Route_init ["self", "start", "arguments", "rows", "legs"] (defScope s_Route_init) := ⟨rfl, rfl, rfl, by decide +kernel, rfl, by decide +kernel, by decide +kernel⟩
abbrev n_Route_counted : List Str := ["self", "choices", "choice"]
theorem sc_Route_counted : FnScope n_Route_counted ["self", "choices"] (defScope s_Route_counted) := ⟨rfl, rfl, rfl, by decide +kernel, rfl, by decide +kernel, by decide +kernel⟩
abbrev n_Route_answers : List Str := ["self", "waiting", "choices", "at", "choice", "leg"]
theorem sc_Route_answers : GScope n_Route_answers ["self"] (defScope s_Route_answers) := ⟨rfl, rfl, rfl, by decide +kernel, rfl, by decide +kernel, by decide +kernel⟩
abbrev n_law_begun : List Str := ["_law_script", "_law_great", "_law_cell"]
theorem sc_law_begun : FnScope n_law_begun ["_law_script"] (defScope s_law_begun) := ⟨rfl, rfl, rfl, by decide +kernel, rfl, by decide +kernel, by decide +kernel⟩
abbrev n_law_mixed : List Str := ["_law_state", "_law_found", "_law_prime", "_law_blend", "_law_cell"]
theorem sc_law_mixed : FnScope n_law_mixed ["_law_state"] (defScope s_law_mixed) := ⟨rfl, rfl, rfl, by decide +kernel, rfl, by decide +kernel, by decide +kernel⟩
abbrev n_law_take : List Str := ["_law_state", "_law_size", "_law_found"]
theorem sc_law_take : FnScope n_law_take ["_law_state", "_law_size"] (defScope s_law_take) := ⟨rfl, rfl, rfl, by decide +kernel, rfl, by decide +kernel, by decide +kernel⟩
abbrev n_law_pick : List Str := ["_law_state", "_law_some"]
theorem sc_law_pick : FnScope n_law_pick ["_law_state", "_law_some"] (defScope s_law_pick) := ⟨rfl, rfl, rfl, by decide +kernel, rfl, by decide +kernel, by decide +kernel⟩
abbrev n_law_row_of : List Str := ["_law_state", "_law_k", "_law_near", "_law_found", "_law_turn"]
theorem sc_law_row_of : FnScope n_law_row_of ["_law_state", "_law_k", "_law_near"] (defScope s_law_row_of) := ⟨rfl, rfl, rfl, by decide +kernel, rfl, by decide +kernel, by decide +kernel⟩
abbrev n_law_many_of : List Str := ["_law_counts", "_law_choices", "_law_found", "_law_choice"]
theorem sc_law_many_of : FnScope n_law_many_of ["_law_counts", "_law_choices"] (defScope s_law_many_of) := ⟨rfl, rfl, rfl, by decide +kernel, rfl, by decide +kernel, by decide +kernel⟩
abbrev n_law_first_answers : List Str := ["_law_lines", "_law_ways", "_law_most", "_law_waiting", "_law_found", "_law_choices"]
theorem sc_law_first_answers : FnScope n_law_first_answers ["_law_lines", "_law_ways", "_law_most"] (defScope s_law_first_answers) := ⟨rfl, rfl, rfl, by decide +kernel, rfl, by decide +kernel, by decide +kernel⟩
abbrev n_law_told : List Str := ["_law_way", "_law_most", "_law_found", "_law_answer"]
theorem sc_law_told : FnScope n_law_told ["_law_way", "_law_most"] (defScope s_law_told) := ⟨rfl, rfl, rfl, by decide +kernel, rfl, by decide +kernel, by decide +kernel⟩
abbrev n_law : List Str := ["_law_script", "_law_state", "_law_many", "_law_near", "_law_lines", "_law_counts", "_law_k", "_law_ways", "_law_turn", "_law_due", "_law_parts", "_law_found", "_law_first", "_law_told_here", "_law_leg", "_law_row"]
theorem sc_law : FnScope n_law ["_law_script"] (defScope s_law) := ⟨rfl, rfl, rfl, by decide +kernel, rfl, by decide +kernel, by decide +kernel⟩
def mainFile : Str := PySem.Challenge.pw_sparenames_k43_answers_of_routes.main.file
/-- what an error's super() asks of the program -/
def PrOk (P : Program) : Prop := P.main.file = mainFile ∧ (P.main.scope.names.lookup ("super" : Str)).isSome = false
/-- what the top has left: the defs, the constants, the names that are still built in -/
structure Txt (K : PySem.W.Frag) (mg : Str → Option Value) where
  f_is_string : Addr
  fd_is_string : FuncData
  F_is_string : Fun K "is_string" "is_string" s_is_string f_is_string fd_is_string
  g_is_string : mg "is_string" = some (.ref f_is_string)
  b_is_string : Binds K fd_is_string ["value", "most"] []
  f_is_tuple_of_strings : Addr
  fd_is_tuple_of_strings : FuncData
  F_is_tuple_of_strings : Fun K "is_tuple_of_strings" "is_tuple_of_strings" s_is_tuple_of_strings f_is_tuple_of_strings fd_is_tuple_of_strings
  g_is_tuple_of_strings : mg "is_tuple_of_strings" = some (.ref f_is_tuple_of_strings)
  b_is_tuple_of_strings : Binds K fd_is_tuple_of_strings ["value"] []
  f_is_choice : Addr
  fd_is_choice : FuncData
  F_is_choice : Fun K "is_choice" "is_choice" s_is_choice f_is_choice fd_is_choice
  g_is_choice : mg "is_choice" = some (.ref f_is_choice)
  b_is_choice : Binds K fd_is_choice ["value", "most"] []
  f_are_choices : Addr
  fd_are_choices : FuncData
  F_are_choices : Fun K "are_choices" "are_choices" s_are_choices f_are_choices fd_are_choices
  g_are_choices : mg "are_choices" = some (.ref f_are_choices)
  b_are_choices : Binds K fd_are_choices ["value", "most"] []
  f_is_row : Addr
  fd_is_row : FuncData
  F_is_row : Fun K "is_row" "is_row" s_is_row f_is_row fd_is_row
  g_is_row : mg "is_row" = some (.ref f_is_row)
  b_is_row : Binds K fd_is_row ["value", "k"] []
  f_are_parts : Addr
  fd_are_parts : FuncData
  F_are_parts : Fun K "are_parts" "are_parts" s_are_parts f_are_parts fd_are_parts
  g_are_parts : mg "are_parts" = some (.ref f_are_parts)
  b_are_parts : Binds K fd_are_parts ["start", "arguments", "rows", "legs"] []
  f_law_begun : Addr
  fd_law_begun : FuncData
  F_law_begun : Fun K "_law_begun" "_law_begun" s_law_begun f_law_begun fd_law_begun
  g_law_begun : mg "_law_begun" = some (.ref f_law_begun)
  b_law_begun : Binds K fd_law_begun ["_law_script"] []
  f_law_mixed : Addr
  fd_law_mixed : FuncData
  F_law_mixed : Fun K "_law_mixed" "_law_mixed" s_law_mixed f_law_mixed fd_law_mixed
  g_law_mixed : mg "_law_mixed" = some (.ref f_law_mixed)
  b_law_mixed : Binds K fd_law_mixed ["_law_state"] []
  f_law_take : Addr
  fd_law_take : FuncData
  F_law_take : Fun K "_law_take" "_law_take" s_law_take f_law_take fd_law_take
  g_law_take : mg "_law_take" = some (.ref f_law_take)
  b_law_take : Binds K fd_law_take ["_law_state", "_law_size"] []
  f_law_pick : Addr
  fd_law_pick : FuncData
  F_law_pick : Fun K "_law_pick" "_law_pick" s_law_pick f_law_pick fd_law_pick
  g_law_pick : mg "_law_pick" = some (.ref f_law_pick)
  b_law_pick : Binds K fd_law_pick ["_law_state", "_law_some"] []
  f_law_row_of : Addr
  fd_law_row_of : FuncData
  F_law_row_of : Fun K "_law_row_of" "_law_row_of" s_law_row_of f_law_row_of fd_law_row_of
  g_law_row_of : mg "_law_row_of" = some (.ref f_law_row_of)
  b_law_row_of : Binds K fd_law_row_of ["_law_state", "_law_k", "_law_near"] []
  f_law_many_of : Addr
  fd_law_many_of : FuncData
  F_law_many_of : Fun K "_law_many_of" "_law_many_of" s_law_many_of f_law_many_of fd_law_many_of
  g_law_many_of : mg "_law_many_of" = some (.ref f_law_many_of)
  b_law_many_of : Binds K fd_law_many_of ["_law_counts", "_law_choices"] []
  f_law_first_answers : Addr
  fd_law_first_answers : FuncData
  F_law_first_answers : Fun K "_law_first_answers" "_law_first_answers" s_law_first_answers f_law_first_answers fd_law_first_answers
  g_law_first_answers : mg "_law_first_answers" = some (.ref f_law_first_answers)
  b_law_first_answers : Binds K fd_law_first_answers ["_law_lines", "_law_ways", "_law_most"] []
  f_law_told : Addr
  fd_law_told : FuncData
  F_law_told : Fun K "_law_told" "_law_told" s_law_told f_law_told fd_law_told
  g_law_told : mg "_law_told" = some (.ref f_law_told)
  b_law_told : Binds K fd_law_told ["_law_way", "_law_most"] []
  f_law : Addr
  fd_law : FuncData
  F_law : Fun K "law" "law" s_law f_law fd_law
  g_law : mg "law" = some (.ref f_law)
  b_law : Binds K fd_law ["_law_script"] []
  z_isinstance : mg "isinstance" = none
  z_str : mg "str" = none
  z_all : mg "all" = none
  z_len : mg "len" = none
  z_tuple : mg "tuple" = none
  z_int : mg "int" = none
  z_bool : mg "bool" = none
  z_enumerate : mg "enumerate" = none
  z_sum : mg "sum" = none
  z_list : mg "list" = none
  z_range : mg "range" = none
  z_min : mg "min" = none
  C_Route : Addr
  gC_Route : mg "Route" = some (.ref C_Route)
  cl_Route : Cls K C_Route
  sf_Route : PySem.W.selfFirst K C_Route = true
  ih_Route : PySem.W.findIn K (.ref C_Route) "__class__" = some (some (.builtin "object.__class__"))
  in_Route : PySem.W.specialIn K (.builtin "object.__class__") "__get__" = some (some (.builtin "getset_descriptor.__get__"))
  it_Route : PySem.W.takesIn K (.builtin "object.__class__") = some true
  im_Route : PySem.W.mroIn K C_Route (.type "object") = some true
  ne_Route : PySem.W.findIn K (.ref C_Route) "__ne__" = some (some (.builtin "object.__ne__"))
  ty_Route : PySem.W.typeIn K (.ref C_Route) = some (.type "type")
  at_Route_start : NoAttr K C_Route "start"
  at_Route_arguments : NoAttr K C_Route "arguments"
  at_Route_rows : NoAttr K C_Route "rows"
  at_Route_legs : NoAttr K C_Route "legs"
  at_Route_counts : NoAttr K C_Route "counts"
  at_Route_count : NoAttr K C_Route "count"
  f_Route_init : Addr
  fd_Route_init : FuncData
  F_Route_init : Fun K "__init__" "Route.__init__" s_Route_init f_Route_init fd_Route_init
  m_Route_init : Meth K C_Route "__init__" f_Route_init
  mk_Route : Mk K C_Route f_Route_init
  b_Route_init : Binds K fd_Route_init ["self", "start", "arguments", "rows", "legs"] []
  f_Route_counted : Addr
  fd_Route_counted : FuncData
  F_Route_counted : Fun K "counted" "Route.counted" s_Route_counted f_Route_counted fd_Route_counted
  m_Route_counted : Meth K C_Route "counted" f_Route_counted
  b_Route_counted : Binds K fd_Route_counted ["self", "choices"] []
  f_Route_answers : Addr
  fd_Route_answers : FuncData
  F_Route_answers : Fun K "answers" "Route.answers" s_Route_answers f_Route_answers fd_Route_answers
  m_Route_answers : Meth K C_Route "answers" f_Route_answers
  b_Route_answers : Binds K fd_Route_answers ["self"] []
  C_SpareError : Addr
  gC_SpareError : mg "SpareError" = some (.ref C_SpareError)
  x_SpareError : ExcC K C_SpareError
  xf_SpareError : XfC K C_SpareError
  kC_SpareError : PySem.W.keepIn K (.ref C_SpareError) = true
  ty_SpareError : PySem.W.typeIn K (.ref C_SpareError) = some (.type "type")
  m_SpareError : PySem.W.exmOne K (.ref C_SpareError) (.ref C_SpareError) = some true
  C_BadRoute : Addr
  gC_BadRoute : mg "BadRoute" = some (.ref C_BadRoute)
  x_BadRoute : ExcC K C_BadRoute
  xf_BadRoute : XfC K C_BadRoute
  kC_BadRoute : PySem.W.keepIn K (.ref C_BadRoute) = true
  ty_BadRoute : PySem.W.typeIn K (.ref C_BadRoute) = some (.type "type")
  m_BadRoute : PySem.W.exmOne K (.ref C_BadRoute) (.ref C_SpareError) = some true
  xi_BadRoute : PySem.W.excIn K C_BadRoute [.type "ValueError", .type "Exception", .type "BaseException", .type "object"] "ValueError.__new__" = true
end Sn
namespace Sn
open PySem PySem.Spec PyProof.Rows L2
def d_is_string : DfM := ⟨fun K => (He.ga K "is_string"), "is_string", "is_string", s_is_string, []⟩
def d_is_tuple_of_strings : DfM := ⟨fun K => (He.ga K "is_tuple_of_strings"), "is_tuple_of_strings", "is_tuple_of_strings", s_is_tuple_of_strings, []⟩
def d_is_choice : DfM := ⟨fun K => (He.ga K "is_choice"), "is_choice", "is_choice", s_is_choice, []⟩
def d_are_choices : DfM := ⟨fun K => (He.ga K "are_choices"), "are_choices", "are_choices", s_are_choices, []⟩
def d_is_row : DfM := ⟨fun K => (He.ga K "is_row"), "is_row", "is_row", s_is_row, []⟩
def d_are_parts : DfM := ⟨fun K => (He.ga K "are_parts"), "are_parts", "are_parts", s_are_parts, []⟩
def d_law_begun : DfM := ⟨fun K => (He.ga K "_law_begun"), "_law_begun", "_law_begun", s_law_begun, []⟩
def d_law_mixed : DfM := ⟨fun K => (He.ga K "_law_mixed"), "_law_mixed", "_law_mixed", s_law_mixed, []⟩
def d_law_take : DfM := ⟨fun K => (He.ga K "_law_take"), "_law_take", "_law_take", s_law_take, []⟩
def d_law_pick : DfM := ⟨fun K => (He.ga K "_law_pick"), "_law_pick", "_law_pick", s_law_pick, []⟩
def d_law_row_of : DfM := ⟨fun K => (He.ga K "_law_row_of"), "_law_row_of", "_law_row_of", s_law_row_of, []⟩
def d_law_many_of : DfM := ⟨fun K => (He.ga K "_law_many_of"), "_law_many_of", "_law_many_of", s_law_many_of, []⟩
def d_law_first_answers : DfM := ⟨fun K => (He.ga K "_law_first_answers"), "_law_first_answers", "_law_first_answers", s_law_first_answers, []⟩
def d_law_told : DfM := ⟨fun K => (He.ga K "_law_told"), "_law_told", "_law_told", s_law_told, []⟩
def d_law : DfM := ⟨fun K => (He.ga K "law"), "law", "law", s_law, []⟩
def d_Route_init : DfM := ⟨fun K => (He.ma K (He.ga K "Route") "__init__"), "__init__", "Route.__init__", s_Route_init, []⟩
def d_Route_counted : DfM := ⟨fun K => (He.ma K (He.ga K "Route") "counted"), "counted", "Route.counted", s_Route_counted, []⟩
def d_Route_answers : DfM := ⟨fun K => (He.ma K (He.ga K "Route") "answers"), "answers", "Route.answers", s_Route_answers, []⟩
def dsH : List DfM := [d_is_string, d_is_tuple_of_strings, d_is_choice, d_are_choices, d_is_row, d_are_parts, d_law_begun, d_law_mixed, d_law_take, d_law_pick, d_law_row_of, d_law_many_of, d_law_first_answers, d_law_told, d_law, d_Route_init, d_Route_counted, d_Route_answers]
def fsA : List (Fr → Bool) := [
  fun K => dfB K (He.ga K "is_string") "is_string" [],
  fun K => He.Fa.ok K (.glo "is_string"),
  fun K => dfB K (He.ga K "is_tuple_of_strings") "is_tuple_of_strings" [],
  fun K => He.Fa.ok K (.glo "is_tuple_of_strings"),
  fun K => dfB K (He.ga K "is_choice") "is_choice" [],
  fun K => He.Fa.ok K (.glo "is_choice"),
  fun K => dfB K (He.ga K "are_choices") "are_choices" [],
  fun K => He.Fa.ok K (.glo "are_choices"),
  fun K => dfB K (He.ga K "is_row") "is_row" [],
  fun K => He.Fa.ok K (.glo "is_row"),
  fun K => dfB K (He.ga K "are_parts") "are_parts" [],
  fun K => He.Fa.ok K (.glo "are_parts"),
  fun K => dfB K (He.ga K "_law_begun") "_law_begun" [],
  fun K => He.Fa.ok K (.glo "_law_begun"),
  fun K => dfB K (He.ga K "_law_mixed") "_law_mixed" [],
  fun K => He.Fa.ok K (.glo "_law_mixed"),
  fun K => dfB K (He.ga K "_law_take") "_law_take" [],
  fun K => He.Fa.ok K (.glo "_law_take"),
  fun K => dfB K (He.ga K "_law_pick") "_law_pick" [],
  fun K => He.Fa.ok K (.glo "_law_pick"),
  fun K => dfB K (He.ga K "_law_row_of") "_law_row_of" [],
  fun K => He.Fa.ok K (.glo "_law_row_of"),
  fun K => dfB K (He.ga K "_law_many_of") "_law_many_of" [],
  fun K => He.Fa.ok K (.glo "_law_many_of"),
  fun K => dfB K (He.ga K "_law_first_answers") "_law_first_answers" [],
  fun K => He.Fa.ok K (.glo "_law_first_answers"),
  fun K => dfB K (He.ga K "_law_told") "_law_told" [],
  fun K => He.Fa.ok K (.glo "_law_told"),
  fun K => dfB K (He.ga K "law") "law" [],
  fun K => He.Fa.ok K (.glo "law")]
def fsB : List (Fr → Bool) := [
  fun K => He.Fa.ok K (.free "isinstance"),
  fun K => He.Fa.ok K (.free "str"),
  fun K => He.Fa.ok K (.free "all"),
  fun K => He.Fa.ok K (.free "len"),
  fun K => He.Fa.ok K (.free "tuple"),
  fun K => He.Fa.ok K (.free "int"),
  fun K => He.Fa.ok K (.free "bool"),
  fun K => He.Fa.ok K (.free "enumerate"),
  fun K => He.Fa.ok K (.free "sum"),
  fun K => He.Fa.ok K (.free "list"),
  fun K => He.Fa.ok K (.free "range"),
  fun K => He.Fa.ok K (.free "min"),
  fun K => clsB K (He.ga K "Route"),
  fun K => He.Fa.ok K (.glo "Route"),
  fun K => noAtB K (He.ga K "Route") "start",
  fun K => noAtB K (He.ga K "Route") "arguments",
  fun K => noAtB K (He.ga K "Route") "rows",
  fun K => noAtB K (He.ga K "Route") "legs",
  fun K => noAtB K (He.ga K "Route") "counts",
  fun K => noAtB K (He.ga K "Route") "count",
  fun K => dfB K (He.ma K (He.ga K "Route") "__init__") "Route.__init__" [],
  fun K => metB K (He.ga K "Route") (He.ma K (He.ga K "Route") "__init__") "__init__",
  fun K => dfB K (He.ma K (He.ga K "Route") "counted") "Route.counted" [],
  fun K => metB K (He.ga K "Route") (He.ma K (He.ga K "Route") "counted") "counted",
  fun K => dfB K (He.ma K (He.ga K "Route") "answers") "Route.answers" [],
  fun K => metB K (He.ga K "Route") (He.ma K (He.ga K "Route") "answers") "answers",
  fun K => errB K (He.ga K "SpareError") (He.ga K "SpareError"),
  fun K => He.Fa.ok K (.glo "SpareError"),
  fun K => errB K (He.ga K "BadRoute") (He.ga K "SpareError"),
  fun K => He.Fa.ok K (.glo "BadRoute"),
  fun K => PySem.W.excIn K (He.ga K "BadRoute") He.veBase "ValueError.__new__"]
def fsH : List (Fr → Bool) := fsA ++ fsB
def tsH : List He.Tab := []
abbrev RH : PySem.W.OpenRow := PySem.W.OpenLaw.row PySem.Challenge.rw_sparenames_k43_answers_of_routes
abbrev qvH : Program := PySem.W.view RH.prog [21]
def namesH0 : List Str := [("SpareError" : Str), ("BadRoute" : Str), ("is_string" : Str), ("is_tuple_of_strings" : Str), ("is_choice" : Str), ("are_choices" : Str), ("is_row" : Str), ("are_parts" : Str), ("Route" : Str), ("_law_begun" : Str), ("_law_mixed" : Str), ("_law_take" : Str), ("_law_pick" : Str), ("_law_row_of" : Str), ("_law_many_of" : Str), ("_law_first_answers" : Str), ("_law_told" : Str)]
def namesH : List Str := namesH0
abbrev hkH : PySem.W.Hook := hookM 1000 fsH dsH tsH
def obH (s : PySem.W.SharedT) : AlM := obsMG 1000 fsH dsH tsH (HandSHeadRun.getT s)
theorem ob_eqH (s : PySem.W.SharedT) : obH s = hkH.obs s.abs := obsMG_eq (HandSHeadRun.getT_eq s)
theorem run_parts {α B X Y : Type} {E : Option α} {L : α → Bool} {S : α → B} {F : α → Bool} {D : α → X} {T : α → Y} {g : B} {d : X} {t : Y} (h1 : E.map (fun s => (L s, S s, D s, T s)) = some (true, g, d, t)) (h2 : E.map F = some true) : E.map (fun s => (L s, S s, F s, D s, T s)) = some (true, g, true, d, t) := by
  cases E with
  | none => cases h1
  | some s =>
    simp only [Option.map_some, Option.some.injEq, Prod.mk.injEq] at h1 h2 ⊢
    exact ⟨h1.1, h1.2.1, h2, h1.2.2⟩
theorem run_two {α β : Type} {E : Option α} {p : α → β → Bool} {A B : List β} (h1 : E.map (fun s => A.all (p s)) = some true) (h2 : E.map (fun s => B.all (p s)) = some true) : E.map (fun s => (A ++ B).all (p s)) = some true := by
  cases E with
  | none => cases h1
  | some s =>
    simp only [Option.map_some, Option.some.injEq] at h1 h2 ⊢
    rw [List.all_append, h1, h2]
    rfl
set_option maxHeartbeats 0 in
theorem runP_false (w : World) (os : OsState) : (HandSHeadRun.endF (HandSHeadRun.stepQ (HandSHeadRun.denQ HandSHeadRun.tabQ) RH.prog (w.withFollow "special-get-raises" false)) 20000 RH.prog (w.withFollow "special-get-raises" false) os).map (fun s => (HandSHeadRun.looksF RH.prog (PySem.W.boot_heap ((w.withFollow "special-get-raises" false) : World).params) s.abs, HandSHeadRun.seenQ qvH namesH (importedModules RH.prog.main.body) (fun s => PySem.W.xlAt qvH [] s && PySem.W.recOk RH.toRowW.records s) s.abs, dsH.map (fun d => fnV (He.frG (HandSHeadRun.getT s) (asM 1000)) (d.at_ (He.frG (HandSHeadRun.getT s) (asM 1000)))), tsH.map (fun t => He.dicW (He.frG (HandSHeadRun.getT s) (asM 1000)) (t.1 (He.frG (HandSHeadRun.getT s) (asM 1000)))))) = some (true, PySem.W.openGood qvH namesH, dsH.map DfM.val, tsH.map fun t => some (He.keysIn ((w.withFollow "special-get-raises" false) : World).params t.2)) := by
  kernel_rfl
set_option maxHeartbeats 0 in
theorem runA_false (w : World) (os : OsState) : (HandSHeadRun.endF (HandSHeadRun.stepQ (HandSHeadRun.denQ HandSHeadRun.tabQ) RH.prog (w.withFollow "special-get-raises" false)) 20000 RH.prog (w.withFollow "special-get-raises" false) os).map (fun s => fsA.all fun f => f (He.frG (HandSHeadRun.getT s) (asM 1000))) = some true := by
  kernel_rfl
set_option maxHeartbeats 0 in
theorem runB_false (w : World) (os : OsState) : (HandSHeadRun.endF (HandSHeadRun.stepQ (HandSHeadRun.denQ HandSHeadRun.tabQ) RH.prog (w.withFollow "special-get-raises" false)) 20000 RH.prog (w.withFollow "special-get-raises" false) os).map (fun s => fsB.all fun f => f (He.frG (HandSHeadRun.getT s) (asM 1000))) = some true := by
  kernel_rfl
theorem run_false (w : World) : HandSHeadRun.RunEq RH qvH hkH obH 20000 namesH (w.withFollow "special-get-raises" false) := by
  unfold HandSHeadRun.RunEq
  intro os
  rw [show obH = fun s => ((fsA ++ fsB).all (fun f => f (He.frG (HandSHeadRun.getT s) (asM 1000))), dsH.map (fun d => fnV (He.frG (HandSHeadRun.getT s) (asM 1000)) (d.at_ (He.frG (HandSHeadRun.getT s) (asM 1000)))), tsH.map (fun t => He.dicW (He.frG (HandSHeadRun.getT s) (asM 1000)) (t.1 (He.frG (HandSHeadRun.getT s) (asM 1000))))) from rfl, show hkH.val (w.withFollow "special-get-raises" false) = (true, dsH.map DfM.val, tsH.map fun t => some (He.keysIn ((w.withFollow "special-get-raises" false) : World).params t.2)) from rfl]
  exact run_parts (runP_false w os) (run_two (p := fun (s : PySem.W.SharedT) (f : Fr → Bool) => f (He.frG (HandSHeadRun.getT s) (asM 1000))) (runA_false w os) (runB_false w os))
set_option maxHeartbeats 0 in
theorem runP_true (w : World) (os : OsState) : (HandSHeadRun.endF (HandSHeadRun.stepQ (HandSHeadRun.denQ HandSHeadRun.tabQ) RH.prog (w.withFollow "special-get-raises" true)) 20000 RH.prog (w.withFollow "special-get-raises" true) os).map (fun s => (HandSHeadRun.looksF RH.prog (PySem.W.boot_heap ((w.withFollow "special-get-raises" true) : World).params) s.abs, HandSHeadRun.seenQ qvH namesH (importedModules RH.prog.main.body) (fun s => PySem.W.xlAt qvH [] s && PySem.W.recOk RH.toRowW.records s) s.abs, dsH.map (fun d => fnV (He.frG (HandSHeadRun.getT s) (asM 1000)) (d.at_ (He.frG (HandSHeadRun.getT s) (asM 1000)))), tsH.map (fun t => He.dicW (He.frG (HandSHeadRun.getT s) (asM 1000)) (t.1 (He.frG (HandSHeadRun.getT s) (asM 1000)))))) = some (true, PySem.W.openGood qvH namesH, dsH.map DfM.val, tsH.map fun t => some (He.keysIn ((w.withFollow "special-get-raises" true) : World).params t.2)) := by
  kernel_rfl
set_option maxHeartbeats 0 in
theorem runA_true (w : World) (os : OsState) : (HandSHeadRun.endF (HandSHeadRun.stepQ (HandSHeadRun.denQ HandSHeadRun.tabQ) RH.prog (w.withFollow "special-get-raises" true)) 20000 RH.prog (w.withFollow "special-get-raises" true) os).map (fun s => fsA.all fun f => f (He.frG (HandSHeadRun.getT s) (asM 1000))) = some true := by
  kernel_rfl
set_option maxHeartbeats 0 in
theorem runB_true (w : World) (os : OsState) : (HandSHeadRun.endF (HandSHeadRun.stepQ (HandSHeadRun.denQ HandSHeadRun.tabQ) RH.prog (w.withFollow "special-get-raises" true)) 20000 RH.prog (w.withFollow "special-get-raises" true) os).map (fun s => fsB.all fun f => f (He.frG (HandSHeadRun.getT s) (asM 1000))) = some true := by
  kernel_rfl
theorem run_true (w : World) : HandSHeadRun.RunEq RH qvH hkH obH 20000 namesH (w.withFollow "special-get-raises" true) := by
  unfold HandSHeadRun.RunEq
  intro os
  rw [show obH = fun s => ((fsA ++ fsB).all (fun f => f (He.frG (HandSHeadRun.getT s) (asM 1000))), dsH.map (fun d => fnV (He.frG (HandSHeadRun.getT s) (asM 1000)) (d.at_ (He.frG (HandSHeadRun.getT s) (asM 1000)))), tsH.map (fun t => He.dicW (He.frG (HandSHeadRun.getT s) (asM 1000)) (t.1 (He.frG (HandSHeadRun.getT s) (asM 1000))))) from rfl, show hkH.val (w.withFollow "special-get-raises" true) = (true, dsH.map DfM.val, tsH.map fun t => some (He.keysIn ((w.withFollow "special-get-raises" true) : World).params t.2)) from rfl]
  exact run_parts (runP_true w os) (run_two (p := fun (s : PySem.W.SharedT) (f : Fr → Bool) => f (He.frG (HandSHeadRun.getT s) (asM 1000))) (runA_true w os) (runB_true w os))
theorem runH (w : World) : HandSHeadRun.RunEq RH qvH hkH obH 20000 namesH w := PySem.W.byRow2 "special-get-raises" run_false run_true w
end Sn
namespace Sn
open PySem PySem.Spec PyProof.Rows L2
/-- the state's dict -/
def drK (g c : Addr) (l t : Int) : List (Key × V) :=
  [(Sum.inr "great", .ref g), (Sum.inr "cells", .ref c), (Sum.inr "left", .int l), (Sum.inr "turn", .int t)]
/-- the drawing state stands at d, its two lists at g and c; at most m numbers were mixed so far -/
structure Dr (H : Hp) (d g c : Addr) (m : Nat) : Prop where
  di : ∃ l t : Int, 0 ≤ t ∧ t ≤ m ∧ H d = some (.dK (drK g c l t))
  gr : ∃ ns : List Int, H g = some (.lst (ns.map V.int))
  ce : ∃ ns : List Int, H c = some (.lst (ns.map V.int))
  gc : g ≠ c
theorem Dr.mono {H : Hp} {d g c : Addr} {m n : Nat} (D : Dr H d g c m) (h : m ≤ n) : Dr H d g c n := by
  obtain ⟨l, t, h0, h1, h2⟩ := D.di
  exact ⟨⟨l, t, h0, by omega, h2⟩, D.gr, D.ce, D.gc⟩
/-- all that was tracked stands, but the state's dict and its first list -/
def Mv (d g : Addr) (H H' : Hp) : Prop := ∀ b o, b ≠ d → b ≠ g → H b = some o → H' b = some o
theorem Mv.refl (d g : Addr) (H : Hp) : Mv d g H H := fun _ _ _ _ e => e
theorem Mv.trans {d g : Addr} {H H1 H2 : Hp} (a : Mv d g H H1) (b : Mv d g H1 H2) : Mv d g H H2 :=
  fun x o h1 h2 e => b x o h1 h2 (a x o h1 h2 e)
theorem Mv.same {d g : Addr} {H H1 : Hp} (a : Same H H1) : Mv d g H H1 := fun x o _ _ e => a x o e
theorem Mv.upd {d g : Addr} {H : Hp} {o : HO} : Mv d g H (upd H d o) := fun b x h1 _ e => by rw [upd_ne h1]; exact e
theorem same_new {H : Hp} {p : Addr} {o : HO} (h : H p = none) : Same H (upd H p o) := fun b x e => by
  rw [upd_ne (ne_of_none e h)]
  exact e
/-- the state stays where all that is tracked stays -/
theorem Dr.same {H H' : Hp} {d g c : Addr} {m : Nat} (D : Dr H d g c m) (s : Same H H') : Dr H' d g c m := by
  obtain ⟨⟨l, t, h0, h1, h2⟩, ⟨a, h3⟩, ⟨b, h4⟩, h5⟩ := D
  exact ⟨⟨l, t, h0, h1, s _ _ h2⟩, ⟨a, s _ _ h3⟩, ⟨b, s _ _ h4⟩, h5⟩
theorem get_great (g c : Addr) (l t : Int) : valV (drK g c l t) (Sum.inr "great" : Key) = some (.ref g) := by kernel_rfl
theorem get_cells (g c : Addr) (l t : Int) : valV (drK g c l t) (Sum.inr "cells" : Key) = some (.ref c) := by kernel_rfl
theorem get_left (g c : Addr) (l t : Int) : valV (drK g c l t) (Sum.inr "left" : Key) = some (.int l) := by kernel_rfl
theorem get_turn (g c : Addr) (l t : Int) : valV (drK g c l t) (Sum.inr "turn" : Key) = some (.int t) := by kernel_rfl
theorem put_left (g c : Addr) (l t x : Int) : putK (drK g c l t) (Sum.inr "left" : Key) (.int x) = drK g c x t := by kernel_rfl
theorem put_turn (g c : Addr) (l t x : Int) : putK (drK g c l t) (Sum.inr "turn" : Key) (.int x) = drK g c l x := by kernel_rfl
theorem dget_of {H : Hp} {d : Addr} {kvs : List (Key × V)} {x : Str} {v : V} (h : H d = some (.dK kvs)) (e : valV kvs (Sum.inr x : Key) = some v) :
    DGet H d (.str x) (some v) := .inl ⟨kvs, Sum.inr x, .inl h, rfl, e.symm⟩
theorem dput_of {H : Hp} {d : Addr} {kvs kvs' : List (Key × V)} {x : Str} {v : V} (h : H d = some (.dK kvs)) (hl : kvs.length ≤ 1000) (e : putK kvs (Sum.inr x : Key) v = kvs') :
    DPut H d (.str x) v (upd H d (.dK kvs')) := .inl ⟨kvs, Sum.inr x, h, rfl, small1000 hl, by rw [e]⟩
theorem dp_ints {K : PySem.W.Frag} {H : Hp} : ∀ ns : List Int, DpAll K H (ns.map V.int) (ns.map PyData.int)
  | [] => .nil
  | n :: r => .cons (.int n) (dp_ints r)
theorem ix0 (x : Int) (r : List Int) : seqIndex? 0 ((x :: r).map V.int).length = some 0 := by
  rw [List.map_cons, List.length_cons]
  simp [seqIndex?]
theorem small4 (g c : Addr) (l t : Int) : (drK g c l t).length ≤ 1000 := by show 4 ≤ 1000; decide
def primes : List Int := [2147483629, 2147483587, 2147483579, 2147483563, 2147483549, 2147483543]
theorem primes_lo : ∀ q ∈ primes, 2147483543 ≤ q := by decide
theorem primes_hi : ∀ q ∈ primes, q ≤ 2147483629 := by decide
section
variable {P : Program} {w : World} {K : PySem.W.Frag} {mg : Str → Option Value} {base : Heap}
/-- _law_mixed: some number; one more was mixed -/
def spMixed : Sp := fun vs H Q _ => ∃ (d g c : Addr) (m : Nat), vs = [.ref d] ∧ Dr H d g c m ∧ m ≤ 1000000000 ∧
  ∀ (r : Int) (H' : Hp), Dr H' d g c (m + 1) → H' g = H g → Mv d g H H' → Q (.int r) H'
theorem ok_mixed (T : Txt K mg) : FnOk P w K mg base CX0 1 T.f_law_mixed T.fd_law_mixed ["_law_state"] spMixed := by
  refine T.F_law_mixed.ok sc_law_mixed (fun vs H Q E h => ?_) (fun cdv A outer s H vs Q E hr h => ?_)
  · obtain ⟨d, g, c, m, rfl, _⟩ := h
    rfl
  · obtain ⟨d, g, c, m, rfl, D, hm, k⟩ := h
    have hu := hu_of hr
    refine ⟨_, pss_cons (ps_dput hu (pv 0) pe_str (pe_op op_add (pe_dget hu (pv 0) pe_str (fun _ _ => rfl)) pe_int) rfl)
      (pss_cons (ps_set (i := 1) sc_law_mixed.nd rfl (Or.inl rfl) pe_int)
      (pss_cons (ps_for PassesOwn.never rfl (pi_list (pe_lst (pa_cons pe_int (pa_cons pe_int (pa_cons pe_int (pa_cons pe_int (pa_cons pe_int (pa_cons pe_int pa_nil)))))))) (pg_name (i := 2) sc_law_mixed.nd rfl (Or.inl rfl))
        (pss_cons (ps_set (i := 3) sc_law_mixed.nd rfl (Or.inl rfl) (pe_op op_add (pe_op op_mul pe_int (pe_dget hu (pv 0) pe_str (fun _ _ => rfl))) (pe_op op_fdivN (pv 2) pe_int)))
        (pss_cons (ps_for PassesOwn.never rfl (pi_list (pe_dget hu (pv 0) pe_str (fun _ _ => rfl))) (pg_name (i := 4) sc_law_mixed.nd rfl (Or.inl rfl))
          (pss_one (ps_set (i := 3) sc_law_mixed.nd rfl (Or.inl rfl) (pe_op op_modN (pe_callTy call_int1 (by rfl) T.z_int (by decide +kernel) (pa_cons (pe_op op_add (pe_op op_mul (pv 3) pe_int) (pv 4)) pa_nil)) (pv 2)))))
        (pss_one (ps_set (i := 1) sc_law_mixed.nd rfl (Or.inl rfl) (pe_op op_add (pe_op op_mul (pv 1) pe_int) (pe_op op_modN (pe_callTy call_int1 (by rfl) T.z_int (by decide +kernel) (pa_cons (pe_op op_pow (pv 3) pe_int) pa_nil)) (pv 2))))))))
      (pss_one (ps_ret (pv 1))))), ?_⟩
    obtain ⟨⟨l, t, h0, h1, hd⟩, ⟨gs, hg⟩, ⟨cs, hc⟩, hgc⟩ := id D
    refine ⟨_, rfl, d, _, rfl, dget_of hd (get_turn g c l t), _, _, rfl, rfl, _, rfl, d, _, rfl, dput_of hd (small4 g c l t) (put_turn g c l t _), ?_⟩
    refine ⟨(by show 6 ≤ sizeLine; decide), fun p hp => ?_⟩
    have npd : p ≠ d := fun e => by rw [e, upd_same] at hp; cases hp
    have hp0 : H p = none := by rw [upd_ne npd] at hp; exact hp
    have ncd : c ≠ d := fun e => by rw [e, hd] at hc; cases hc
    have ngd : g ≠ d := fun e => by rw [e, hd] at hg; cases hg
    generalize eH2 : upd (upd H d (.dK (drK g c l (t + 1)))) p (.lst [.int 2147483629, .int 2147483587, .int 2147483579, .int 2147483563, .int 2147483549, .int 2147483543]) = H2
    have fd : H2 d = some (.dK (drK g c l (t + 1))) := by rw [← eH2, upd_ne npd.symm, upd_same]
    have fc : H2 c = some (.lst (cs.map V.int)) := by rw [← eH2, upd_ne (ne_of_none hc hp0), upd_ne ncd]; exact hc
    have fg : H2 g = some (.lst (gs.map V.int)) := by rw [← eH2, upd_ne (ne_of_none hg hp0), upd_ne ngd]; exact hg
    have fp : H2 p = some (.lst (primes.map V.int)) := by rw [← eH2, upd_same]; rfl
    refine ⟨p, rfl, ⟨_, .inl (.inl fp)⟩, for_list (K := K) (a := p) (xs := primes.map V.int)
      (fun i σ H3 => ∃ (v2 v3 v4 : Option V) (f : Int), H2 = H3 ∧ σ = [some (.ref d), some (.int f), v2, v3, v4]) ⟨none, none, none, 0, rfl, rfl⟩ (fun i σ H3 _ ⟨_, _, _, _, e, _⟩ => by rw [← e]; exact .inl (.inl fp)) ?_ ?_⟩
    · rintro i y σ H3 hi ⟨v2, v3, v4, f, rfl, rfl⟩
      obtain ⟨q, rfl, q1, q2⟩ : ∃ q : Int, y = .int q ∧ 2147483543 ≤ q ∧ q ≤ 2147483629 := by
        have hm : y ∈ primes.map V.int := List.mem_of_getElem? hi
        obtain ⟨q, hq, rfl⟩ := List.mem_map.mp hm
        exact ⟨q, rfl, primes_lo q hq, primes_hi q hq⟩
      -- blend = 69997 * turn + prime // 11
      refine ⟨_, rfl, d, _, rfl, dget_of fd (get_turn g c l (t + 1)), _, _, rfl, rfl, .inl ⟨by decide, by decide⟩, _, rfl, _, _, rfl, rfl, ⟨by decide, by decide⟩, _, _, rfl, rfl, ?_⟩
      have b0 : 0 ≤ 69997 * (t + 1) + Int.fdiv q 11 ∧ 69997 * (t + 1) + Int.fdiv q 11 < 9223372036854775808 := by
        rw [Int.fdiv_eq_ediv_of_nonneg _ (by decide)]
        omega
      -- for cell in state["cells"]
      refine ⟨_, rfl, d, _, rfl, dget_of fd (get_cells g c l (t + 1)), c, rfl, ⟨_, .inl (.inl fc)⟩, for_list (K := K) (a := c) (xs := cs.map V.int)
        (fun i σ H3 => ∃ (v4 : Option V) (b : Int), H2 = H3 ∧ (0 ≤ b ∧ b < 9223372036854775808) ∧ σ = [some (.ref d), some (.int f), some (.int q), some (.int b), v4]) ⟨v4, _, rfl, b0, rfl⟩
        (fun i σ H3 _ ⟨_, _, e, _, _⟩ => by rw [← e]; exact .inl (.inl fc)) ?_ ?_⟩
      · rintro j x σ H3 hj ⟨v4, b, rfl, hb, rfl⟩
        obtain ⟨z, hz, rfl⟩ := List.mem_map.mp (List.mem_of_getElem? hj)
        refine ⟨_, rfl, _, _, rfl, rfl, .inr ⟨by decide, by decide⟩, _, rfl, _, _, rfl, rfl, .inl ⟨_, rfl, _, rfl, _, _, rfl, rfl, (by omega), ?_⟩⟩
        refine ⟨_, _, rfl, ?_, rfl⟩
        rw [Int.fmod_eq_emod_of_nonneg _ (by omega)]
        have e1 := Int.emod_nonneg (b * 48271 + z) (b := q) (by omega)
        have e2 := Int.emod_lt_of_pos (b * 48271 + z) (b := q) (by omega)
        omega
      · rintro σ H3 ⟨v4, b, rfl, hb, rfl⟩
        refine ⟨_, rfl, _, _, rfl, rfl, .inr ⟨by decide, by decide⟩, _, rfl, _, _, rfl, rfl, ⟨by decide, by decide, by omega⟩, .inl ⟨_, rfl, _, rfl, _, _, rfl, rfl, (by omega), _, _, rfl, rfl, ?_⟩⟩
        exact ⟨_, _, _, _, rfl, rfl⟩
    · rintro σ H3 ⟨v2, v3, v4, f, rfl, rfl⟩
      refine ⟨_, rfl, k f _ ⟨⟨l, t + 1, by omega, by omega, fd⟩, ⟨gs, fg⟩, ⟨cs, fc⟩, hgc⟩ (fg.trans hg.symm) fun b o h1 h2 e => ?_⟩
      rw [← eH2, upd_ne (ne_of_none e hp0), upd_ne h1]
      exact e
/-- _law_take: some number from 0 to size - 1 -/
def spTake : Sp := fun vs H Q _ => ∃ (d g c : Addr) (m : Nat) (n : Int), vs = [.ref d, .int n] ∧ Dr H d g c m ∧ m ≤ 1000000000 ∧ 0 < n ∧ n < 1000000000 ∧
  ∀ (r : Int) (H' : Hp), 0 ≤ r → r < n → Dr H' d g c (m + 1) → Mv d g H H' → Q (.int r) H'
theorem ok_take (T : Txt K mg) : FnOk P w K mg base CX0 2 T.f_law_take T.fd_law_take ["_law_state", "_law_size"] spTake := by
  have GM : FnOk P w K mg base CX0 1 T.f_law_mixed T.fd_law_mixed ["_law_state"] spMixed := ok_mixed T
  refine T.F_law_take.ok sc_law_take (fun vs H Q E h => ?_) (fun cdv A outer s H vs Q E hr h => ?_)
  · obtain ⟨d, g, c, m, n, rfl, _⟩ := h
    rfl
  · obtain ⟨d, g, c, m, n, rfl, D, hm, n0, n1, k⟩ := h
    have hu := hu_of hr
    refine ⟨_, pss_cons (ps_if (pt_cmpR op_eq (pe_dget hu (pv 0) pe_str (fun _ _ => rfl)) pe_int (nomark _))
        (pss_one (ps_dput hu (pv 0) pe_str (pe_ifExp (pt_cmpR (op_neD hr.units) (pe_dget hu (pv 0) pe_str (fun _ _ => rfl)) (pe_lst pa_nil) (nomark _))
          (pe_bm PySem.F.plainAttrs_list PySem.F.slot_list_pop PySem.F.type_list_pop mt_popAt (pe_dget hu (pv 0) pe_str (fun _ _ => rfl)) (pa_cons pe_int pa_nil))
          (pe_call GM hr rfl T.g_law_mixed T.F_law_mixed.kp T.b_law_mixed .nil pass0 (pa_cons (pv 0) pa_nil))) rfl)) pss_nil)
      (pss_cons (ps_set (i := 2) sc_law_take.nd rfl (Or.inl rfl) (pe_op op_modN (pe_callTy call_int1 (by rfl) T.z_int (by decide +kernel) (pa_cons (pe_dget hu (pv 0) pe_str (fun _ _ => rfl)) pa_nil)) (pv 1)))
      (pss_cons (ps_dput hu (pv 0) pe_str (pe_op op_fdivN (pe_dget hu (pv 0) pe_str (fun _ _ => rfl)) (pv 1)) rfl)
      (pss_one (ps_ret (pv 2))))), ?_⟩
    obtain ⟨⟨l, t, h0, h1, hd⟩, ⟨gs, hg⟩, ⟨cs, hc⟩, hgc⟩ := id D
    have ngd : g ≠ d := fun e => by rw [e, hd] at hg; cases hg
    have ncd : c ≠ d := fun e => by rw [e, hd] at hc; cases hc
    refine ⟨_, rfl, d, _, rfl, dget_of hd (get_left g c l t), rfl, _, rfl, ?_⟩
    have tail : ∀ (x y : Int) (H1 : Hp), 0 ≤ y → y ≤ m + 1 → H1 d = some (.dK (drK g c x y)) → (∃ ns : List Int, H1 g = some (.lst (ns.map V.int))) → H1 c = some (.lst (cs.map V.int)) → Mv d g H H1 →
        (0 ≤ Int.fmod x n ∧ Int.fmod x n < n) ∧ Q (.int (Int.fmod x n)) (upd H1 d (.dK (drK g c (Int.fdiv x n) y))) := by
      intro x y H1 y0 y1 e1 e2 e3 mv
      have r0 : 0 ≤ Int.fmod x n ∧ Int.fmod x n < n := by
        rw [Int.fmod_eq_emod_of_nonneg _ (by omega)]
        exact ⟨Int.emod_nonneg _ (by omega), Int.emod_lt_of_pos _ n0⟩
      obtain ⟨ns, e2⟩ := e2
      refine ⟨r0, k _ _ r0.1 r0.2 ⟨⟨_, y, y0, by omega, upd_same⟩, ⟨ns, by rw [upd_ne ngd]; exact e2⟩, ⟨cs, by rw [upd_ne ncd]; exact e3⟩, hgc⟩ (mv.trans Mv.upd)⟩
    refine ite2 (fun _ => ?_) (fun _ => ?_)
    · refine ⟨_, rfl, d, _, rfl, dget_of hd (get_great g c l t), (by show 0 ≤ sizeLine; decide), fun p hp => ?_⟩
      have sp1 : Same H (upd H p (.lst [])) := same_new hp
      refine ⟨_, _, .lst (.inl (.inl (sp1 _ _ hg))) (dp_ints gs), .lst (.inl (.inl upd_same)) .nil, PySem.W.ke_shaped_ints gs, by decide, _, rfl, ?_⟩
      match gs, hg with
      | [], hg =>
        refine iteF ?_
        refine ⟨_, rfl, d, g, c, m, rfl, D.same sp1, hm, fun r H1 D1 eg mv => ?_⟩
        obtain ⟨⟨l1, t1, g0, g1, hd1⟩, ⟨gs1, hg1⟩, ⟨cs1, hc1⟩, _⟩ := id D1
        refine ⟨_, rfl, d, _, rfl, dput_of hd1 (small4 g c l1 t1) (put_left g c l1 t1 r), ?_⟩
        have hc2 : H1 c = some (.lst (cs.map V.int)) := mv c _ ncd hgc.symm (sp1 _ _ hc)
        obtain ⟨r0, z⟩ := tail r t1 (upd H1 d (.dK (drK g c r t1))) g0 (by omega) upd_same ⟨gs1, by rw [upd_ne ngd]; exact hg1⟩ (by rw [upd_ne ncd]; exact hc2) (((Mv.same sp1).trans mv).trans Mv.upd)
        refine ⟨_, rfl, d, _, rfl, dget_of upd_same (get_left g c r t1), .inl ⟨_, rfl, _, rfl, _, _, rfl, rfl, (by omega), ?_⟩⟩
        exact ⟨_, rfl, d, _, rfl, dget_of upd_same (get_left g c r t1), _, rfl, _, _, rfl, rfl, ⟨by omega, by omega⟩, _, rfl, d, _, rfl, dput_of upd_same (small4 g c r t1) (put_left g c r t1 _), _, rfl, z⟩
      | x :: gs, hg =>
        refine iteT ?_
        refine ⟨_, rfl, d, _, rfl, dget_of (sp1 _ _ hd) (get_great g c l t), .inl ⟨rfl, _, .inl (.inl (sp1 _ _ hg))⟩, g, _, 0, 0, _, rfl, rfl, sp1 _ _ hg, by decide, by decide, ix0 _ _, rfl, ?_⟩
        have hd1 : (upd (upd H p (.lst [])) g (.lst (((x :: gs).map V.int).eraseIdx 0))) d = some (.dK (drK g c l t)) := by rw [upd_ne ngd.symm]; exact sp1 _ _ hd
        refine ⟨_, rfl, d, _, rfl, dput_of hd1 (small4 g c l t) (put_left g c l t x), ?_⟩
        obtain ⟨r0, z⟩ := tail x t (upd (upd (upd H p (.lst [])) g (.lst (((x :: gs).map V.int).eraseIdx 0))) d (.dK (drK g c x t))) h0 (by omega) upd_same ⟨gs, by rw [upd_ne ngd, upd_same]; rfl⟩ (by rw [upd_ne ncd, upd_ne hgc.symm]; exact sp1 _ _ hc) (fun b o b1 b2 e => by rw [upd_ne b1, upd_ne b2]; exact sp1 _ _ e)
        refine ⟨_, rfl, d, _, rfl, dget_of upd_same (get_left g c x t), .inl ⟨_, rfl, _, rfl, _, _, rfl, rfl, (by omega), ?_⟩⟩
        exact ⟨_, rfl, d, _, rfl, dget_of upd_same (get_left g c x t), _, rfl, _, _, rfl, rfl, ⟨by omega, by omega⟩, _, rfl, d, _, rfl, dput_of upd_same (small4 g c x t) (put_left g c x t _), _, rfl, z⟩
    · obtain ⟨r0, z⟩ := tail l t H h0 (by omega) hd ⟨gs, hg⟩ hc (Mv.refl _ _ _)
      refine ⟨_, rfl, d, _, rfl, dget_of hd (get_left g c l t), .inl ⟨_, rfl, _, rfl, _, _, rfl, rfl, (by omega), ?_⟩⟩
      exact ⟨_, rfl, d, _, rfl, dget_of hd (get_left g c l t), _, rfl, _, _, rfl, rfl, ⟨by omega, by omega⟩, _, rfl, d, _, rfl, dput_of hd (small4 g c l t) (put_left g c l t _), _, rfl, z⟩
theorem at_int {α : Type} {xs : List α} {r : Int} (h0 : 0 ≤ r) (h1 : r < xs.length) : ∃ v, v ∈ xs ∧ atI xs r = some v := by
  obtain ⟨j, rfl⟩ := Int.eq_ofNat_of_zero_le h0
  have hj : j < xs.length := by omega
  exact ⟨xs[j], List.getElem_mem hj, atI_nat (List.getElem?_eq_getElem hj)⟩
/-- _law_pick: a sign of a text that is not empty, an item of a list that is not empty -/
def spPick : Sp := fun vs H Q _ => ∃ (d g c : Addr) (m : Nat), Dr H d g c m ∧ m ≤ 1000000000 ∧
  ((∃ z : Str, vs = [.ref d, .str z] ∧ 0 < z.length ∧ z.length ≤ 1000 ∧ ∀ (x : Nat) (H' : Hp), x ∈ z.cps.toList → Dr H' d g c (m + 1) → Mv d g H H' → Q (.str ⟨#[x]⟩) H') ∨
   (∃ (p : Addr) (xs : List V), vs = [.ref d, .ref p] ∧ H p = some (.lst xs) ∧ p ≠ g ∧ 0 < xs.length ∧ xs.length ≤ 1000 ∧ ∀ (x : V) (H' : Hp), x ∈ xs → Dr H' d g c (m + 1) → Mv d g H H' → Q x H'))
theorem ok_pick (T : Txt K mg) : FnOk P w K mg base CX0 3 T.f_law_pick T.fd_law_pick ["_law_state", "_law_some"] spPick := by
  have GT : FnOk P w K mg base CX0 2 T.f_law_take T.fd_law_take ["_law_state", "_law_size"] spTake := ok_take T
  refine T.F_law_pick.ok sc_law_pick (fun vs H Q E h => ?_) (fun cdv A outer s H vs Q E hr h => ?_)
  · obtain ⟨d, g, c, m, _, _, ⟨z, rfl, _⟩ | ⟨p, xs, rfl, _⟩⟩ := h
    · rfl
    · rfl
  · obtain ⟨d, g, c, m, D, hm, h⟩ := h
    refine ⟨_, pss_one (ps_ret (pe_ix ix_seq (pv 1) (pe_call GT hr rfl T.g_law_take T.F_law_take.kp T.b_law_take .nil pass0 (pa_cons (pv 0) (pa_cons (pe_callB call_len (by rfl) T.z_len PySem.boot_len (pa_cons (pv 1) pa_nil)) pa_nil))) (fun _ _ => rfl))), ?_⟩
    rcases h with ⟨z, rfl, z0, z1, k⟩ | ⟨p, xs, rfl, hp, npg, z0, z1, k⟩
    · have zs : z.length ≤ sizeLine := Nat.le_of_lt (small1000 z1)
      refine ⟨_, rfl, _, rfl, _, rfl, _, z.length, rfl, ⟨zs, rfl⟩, d, g, c, m, _, rfl, D, hm, by omega, by omega, fun r H' r0 r1 D' mv => ?_⟩
      obtain ⟨x, hx, ex⟩ := at_int (xs := z.cps.toList) r0 (by show r < (z.length : Int); omega)
      exact .inr (.inr ⟨z, r, x, rfl, rfl, zs, ex, k _ H' hx D' mv⟩)
    · refine ⟨_, rfl, _, rfl, _, rfl, _, xs.length, rfl, .inl ⟨xs, .inl (.inl hp), rfl⟩, d, g, c, m, _, rfl, D, hm, by omega, by omega, fun r H' r0 r1 D' mv => ?_⟩
      have npd : p ≠ d := by
        obtain ⟨l, t, _, _, hd⟩ := D.di
        exact ne_of hp hd (by intro z; cases z)
      obtain ⟨x, hx, ex⟩ := at_int (xs := xs) r0 r1
      exact .inl ⟨p, xs, r, x, rfl, rfl, .inl (.inl (mv p _ npd npg hp)), ex, k _ H' hx D' mv⟩
/-- _law_begun: a new state -/
def spBegun (K : PySem.W.Frag) : Sp := fun vs H Q _ => ∃ (a : Addr) (ns : List Int), vs = [.ref a] ∧ SqL K H a (ns.map V.int) ∧ ns.length ≤ 1000 ∧
  ∀ (d g c : Addr) (H' : Hp), H d = none → H g = none → H c = none → Dr H' d g c 0 → Same H H' → Q (.ref d) H'
theorem ok_begun (T : Txt K mg) : FnOk P w K mg base CX0 1 T.f_law_begun T.fd_law_begun ["_law_script"] (spBegun K) := by
  refine T.F_law_begun.ok sc_law_begun (fun vs H Q E h => ?_) (fun cdv A outer s H vs Q E hr h => ?_)
  · obtain ⟨a, ns, rfl, _⟩ := h
    rfl
  · obtain ⟨a, ns, rfl, hS, hl, k⟩ := h
    refine ⟨_, pss_cons (ps_setLc (i := 1) (own := [("_law_cell", 2)]) (g := gName 2) rfl sc_law_begun.nd rfl rfl (sw_true rfl rfl rfl (by decide +kernel)) (pi_list (pv 0))
        (blkOk_by (own := [("_law_cell", 2)]) (N := n_law_begun) (sc := defScope s_law_begun) (by decide +kernel))
        (fun _ _ _ _ _ => pg_name (i := 2) sc_law_begun.nd rfl (Or.inl rfl))
        (fun _ _ _ _ _ => pts_one (pt_cmpR op_ge (pv 2) (pe_op op_pow pe_int pe_int) (nomark _)))
        (fun _ _ _ _ _ => pe_op op_sub (pv 2) (pe_op op_pow pe_int pe_int)))
      (pss_one (ps_ret (pe_disp (pps_cons pe_str (pv 1) (pps_cons pe_str (pe_callTy call_list_of (by rfl) T.z_list (by decide +kernel) (pa_cons (pv 0) pa_nil)) (pps_cons pe_str pe_int (pps_cons pe_str pe_int pps_nil)))) (by rfl) (by rfl) (fun z => by cases z) (by decide)))), ?_⟩
    refine ⟨_, rfl, a, rfl, ⟨_, hS⟩, fun D hD => ?_⟩
    have sm : ∀ o, Same H (upd H D o) := fun o => same_new hD
    refine lc_list (K := K) (a := a) (xs := ns.map V.int) (fun i H1 => ∃ gs : List Int, H1 = upd H D (.lst (gs.map V.int)) ∧ gs.length ≤ i) ⟨[], rfl, Nat.le_refl _⟩
      (fun i H1 _ ⟨gs, e, _⟩ => by rw [e]; exact (sm _).seq hS) ?_ ?_
    · rintro i x H1 hx ⟨gs, rfl, hg⟩
      have hi : i < (ns.map V.int).length := (List.getElem?_eq_some_iff.mp hx).1
      rw [List.length_map] at hi
      obtain ⟨z, hz, rfl⟩ := List.mem_map.mp (List.mem_of_getElem? hx)
      refine ⟨rfl, _, rfl, _, _, rfl, rfl, ⟨by decide, by decide, by decide⟩, _, _, rfl, rfl, _, rfl, ?_⟩
      refine ite2 (fun _ => ?_) (fun _ => ?_)
      · refine ⟨_, rfl, _, _, rfl, rfl, ⟨by decide, by decide, by decide⟩, _, _, rfl, rfl, _, upd_same, ?_, ?_⟩
        · rw [List.length_map]
          exact small1000 (by omega)
        · refine ⟨gs ++ [z - 10 ^ 18], ?_, by rw [List.length_append]; show gs.length + 1 ≤ i + 1; omega⟩
          rw [upd_upd, List.map_append]
          rfl
      · exact ⟨gs, rfl, by omega⟩
    · rintro H1 ⟨gs, rfl, hg⟩
      intro d hd
      have nDd : D ≠ d := fun e => by rw [← e, upd_same] at hd; cases hd
      have hd0 : H d = none := by rw [upd_ne nDd.symm] at hd; exact hd
      have s1 : Same (upd H D (.lst (gs.map V.int))) (upd (upd H D (.lst (gs.map V.int))) d (.dK [])) := same_new hd
      refine ⟨_, rfl, _, rfl, a, _, rfl, .inl (s1.seq ((sm _).seq hS)), fun c hc => ?_⟩
      have s2 : Same (upd (upd H D (.lst (gs.map V.int))) d (.dK [])) (upd (upd (upd H D (.lst (gs.map V.int))) d (.dK [])) c (.lst (ns.map V.int))) := same_new hc
      have hgD := s2 _ _ (s1 _ _ (upd_same (H := H) (a := D) (o := .lst (gs.map V.int))))
      have hdd := s2 _ _ (upd_same (H := upd H D (.lst (gs.map V.int))) (a := d) (o := .dK []))
      have ndc : d ≠ c := fun e => by rw [← e, upd_same] at hc; cases hc
      have nDc : D ≠ c := fun e => by rw [← e] at hc; rw [s1 _ _ upd_same] at hc; cases hc
      have hc0 : H c = none := by rw [upd_ne ndc.symm, upd_ne nDc.symm] at hc; exact hc
      refine ⟨hdd, drK D c 0 0, rfl, by show 4 ≤ 15; decide, ?_⟩
      have em : mergeK [] (drK D c 0 0) = drK D c 0 0 := by kernel_rfl
      rw [em]
      refine k d D c _ hd0 hD hc0 ⟨⟨0, 0, by omega, by omega, upd_same⟩, ⟨gs, ?_⟩, ⟨ns, ?_⟩, nDc⟩ fun b o e => ?_
      · rw [upd_ne nDd]; exact hgD
      · rw [upd_ne ndc.symm, upd_same]
      · rw [upd_ne (ne_of_none e hd0)]; exact s2 _ _ (s1 _ _ (sm _ _ _ e))
end
end Sn
namespace Sn
open PySem PySem.Spec PyProof.Rows L2
/-- a value of a built-in type that is met in the laws -/
inductive TyB (K : PySem.W.Frag) (H : Hp) : V → String → Prop
  | non : TyB K H .non "NoneType"
  | bl (b : Bool) : TyB K H (.bl b) "bool"
  | int (i : Int) : TyB K H (.int i) "int"
  | str (z : Str) : TyB K H (.str z) "str"
  | lst {a : Addr} {xs : List V} (h : H a = some (.lst xs)) : TyB K H (.ref a) "list"
  | tup {a : Addr} {xs : List V} (h : H a = some (.tup xs)) : TyB K H (.ref a) "tuple"
  | dK {a : Addr} {kvs : List (Key × V)} (h : H a = some (.dK kvs)) : TyB K H (.ref a) "dict"
theorem TyB.ty {K : PySem.W.Frag} {H : Hp} {v : V} {T : String} (h : TyB K H v T) : TyX K H v (.type T) := by
  cases h with
  | non => exact .base .non
  | bl b => exact .base (.bl b)
  | int i => exact .base (.int i)
  | str z => exact .base (.str z)
  | lst h => exact .base (.lst h)
  | tup h => exact .base (.tup h)
  | dK h => exact .base (.dK h)
theorem TyB.same {K : PySem.W.Frag} {H H' : Hp} {v : V} {T : String} (h : TyB K H v T) (s : Same H H') : TyB K H' v T := by
  cases h with
  | non => exact .non
  | bl b => exact .bl b
  | int i => exact .int i
  | str z => exact .str z
  | lst h => exact .lst (s _ _ h)
  | tup h => exact .tup (s _ _ h)
  | dK h => exact .dK (s _ _ h)
end Sn
namespace Sn
open PySem PySem.Spec PyProof.Rows L2
mutual
/-- the value v is the data d -/
inductive Dh (H : Hp) : V → PyData → Prop
  | non : Dh H .non .none
  | bl (b : Bool) : Dh H (.bl b) (.bool b)
  | int (i : Int) : Dh H (.int i) (.int i)
  | str (x : Str) : Dh H (.str x) (.str x)
  | lst {a : Addr} {xs : List V} {ds : List PyData} : H a = some (.lst xs) → DhAll H xs ds → Dh H (.ref a) (.list ds)
  | tup {a : Addr} {xs : List V} {ds : List PyData} : H a = some (.tup xs) → DhAll H xs ds → Dh H (.ref a) (.tuple ds)
  | dk {a : Addr} : H a = some (.dK []) → Dh H (.ref a) (.dict [])
inductive DhAll (H : Hp) : List V → List PyData → Prop
  | nil : DhAll H [] []
  | cons {v : V} {vs : List V} {d : PyData} {ds : List PyData} : Dh H v d → DhAll H vs ds → DhAll H (v :: vs) (d :: ds)
end
mutual
theorem Dh.same {H H' : Hp} (sm : Same H H') : ∀ {v : V} {d : PyData}, Dh H v d → Dh H' v d
  | _, _, .non => .non
  | _, _, .bl b => .bl b
  | _, _, .int i => .int i
  | _, _, .str x => .str x
  | _, _, .lst h a => .lst (sm _ _ h) (a.same sm)
  | _, _, .tup h a => .tup (sm _ _ h) (a.same sm)
  | _, _, .dk h => .dk (sm _ _ h)
theorem DhAll.same {H H' : Hp} (sm : Same H H') : ∀ {v : List V} {d : List PyData}, DhAll H v d → DhAll H' v d
  | _, _, .nil => .nil
  | _, _, .cons h a => .cons (h.same sm) (a.same sm)
end
theorem DhAll.len {H : Hp} : ∀ {vs : List V} {ds : List PyData}, DhAll H vs ds → vs.length = ds.length
  | _, _, .nil => rfl
  | _, _, .cons _ a => by rw [List.length_cons, List.length_cons, a.len]
theorem DhAll.get {H : Hp} : ∀ {vs : List V} {ds : List PyData}, DhAll H vs ds → ∀ {i : Nat} {v : V}, vs[i]? = some v → ∃ d, ds[i]? = some d ∧ Dh H v d
  | _, _, .nil, i, v, h => by simp at h
  | _, _, .cons h a, 0, v, e => by
    simp only [List.getElem?_cons_zero, Option.some.injEq] at e
    subst e
    exact ⟨_, rfl, h⟩
  | _, _, .cons h a, i + 1, v, e => by
    simp only [List.getElem?_cons_succ] at e ⊢
    exact a.get e
theorem DhAll.at {H : Hp} {vs : List V} {ds : List PyData} (a : DhAll H vs ds) {i : Nat} (h : i < ds.length) : ∃ v d, vs[i]? = some v ∧ ds[i]? = some d ∧ Dh H v d := by
  have h1 : i < vs.length := by rw [a.len]; exact h
  obtain ⟨d, e, q⟩ := a.get (List.getElem?_eq_getElem h1)
  exact ⟨_, d, List.getElem?_eq_getElem h1, e, q⟩
theorem DhAll.app {H : Hp} : ∀ {vs ws : List V} {ds es : List PyData}, DhAll H vs ds → DhAll H ws es → DhAll H (vs ++ ws) (ds ++ es)
  | _, _, _, _, .nil, b => b
  | _, _, _, _, .cons h a, b => .cons h (a.app b)
theorem DhAll.take {H : Hp} : ∀ {vs : List V} {ds : List PyData}, DhAll H vs ds → ∀ n, DhAll H (vs.take n) (ds.take n)
  | _, _, .nil, n => by simp; exact .nil
  | _, _, .cons h a, 0 => .nil
  | _, _, .cons h a, n + 1 => .cons h (a.take n)
theorem DhAll.drop {H : Hp} : ∀ {vs : List V} {ds : List PyData}, DhAll H vs ds → ∀ n, DhAll H (vs.drop n) (ds.drop n)
  | _, _, .nil, n => by simp; exact .nil
  | _, _, .cons h a, 0 => .cons h a
  | _, _, .cons h a, n + 1 => a.drop n
/-- the type's name -/
def dTy : PyData → String
  | .none => "NoneType"
  | .bool _ => "bool"
  | .int _ => "int"
  | .str _ => "str"
  | .list _ => "list"
  | .tuple _ => "tuple"
  | .dict _ => "dict"
theorem Dh.ty {K : PySem.W.Frag} {H : Hp} {v : V} {d : PyData} (h : Dh H v d) : TyX K H v (.type (dTy d)) := by
  cases h with
  | non => exact .base .non
  | bl b => exact .base (.bl b)
  | int i => exact .base (.int i)
  | str x => exact .base (.str x)
  | lst h a => exact .base (.lst h)
  | tup h a => exact .base (.tup h)
  | dk h => exact .base (.dK h)
def isS : PyData → Bool
  | .str _ => true
  | _ => false
theorem kit_s {K : PySem.W.Frag} {d : PyData} : PySem.W.kitOne K (.type (dTy d)) (.type "str") = some (isS d) := by
  cases d with
  | none => exact kit_ty (show kitB "NoneType" "str" = some false by decide +kernel)
  | bool _ => exact kit_ty (show kitB "bool" "str" = some false by decide +kernel)
  | int _ => exact kit_ty (show kitB "int" "str" = some false by decide +kernel)
  | str _ => exact kit_ty (show kitB "str" "str" = some true by decide +kernel)
  | list _ => exact kit_ty (show kitB "list" "str" = some false by decide +kernel)
  | tuple _ => exact kit_ty (show kitB "tuple" "str" = some false by decide +kernel)
  | dict _ => exact kit_ty (show kitB "dict" "str" = some false by decide +kernel)
section
variable {X : Cx}
/-- isinstance, the knowledge named -/
theorem call_isiN {K : PySem.W.Frag} (hK : X.K = K := by rfl) : CallR X (.builtin "isinstance") (rIsi K) := by
  subst hK
  exact call_isi
/-- len, the knowledge named -/
theorem call_lenN {K : PySem.W.Frag} (hK : X.K = K := by rfl) : CallR X (.builtin "len") (fun xs H Q => ∃ x n, xs = [x] ∧ LenV K x H n ∧ Q (.int n) H) := by
  subst hK
  exact call_len
end
/-- bounded data: at most n items in a row, at most k levels -/
def okD (n : Nat) : Nat → PyData → Bool
  | _, .none => true
  | _, .bool _ => true
  | _, .int i => decide (i.natAbs < 1000000)
  | _, .str s => decide (s.length ≤ 1000) && s.cps.toList.all fun c => decide (c < 128)
  | k + 1, .list ds => decide (ds.length ≤ n) && ds.all (okD n k)
  | k + 1, .tuple ds => decide (ds.length ≤ n) && ds.all (okD n k)
  | _, _ => false
/-- bounded data can be compared at any depth -/
theorem Dh.dp {K : PySem.W.Frag} {H : Hp} {n : Nat} : ∀ {k : Nat} {v : V} {d : PyData}, Dh H v d → okD n k d = true → Dp K H v d := by
  intro k
  induction k with
  | zero =>
    intro v d h ho
    cases h with
    | non => exact .non
    | bl b => exact .bl b
    | int i => exact .int i
    | str x => exact .str x
    | lst h a => simp [okD] at ho
    | tup h a => simp [okD] at ho
    | dk h => simp [okD] at ho
  | succ k ih =>
    intro v d h ho
    have key : ∀ (ds : List PyData) (vs : List V), DhAll H vs ds → (∀ x ∈ ds, okD n k x = true) → DpAll K H vs ds := by
      intro ds
      induction ds with
      | nil => intro vs a _; cases a; exact .nil
      | cons x r ihr =>
        intro vs a hx
        cases a with
        | cons h a => exact .cons (ih h (hx x (List.mem_cons.mpr (.inl rfl)))) (ihr _ a fun y hy => hx y (List.mem_cons.mpr (.inr hy)))
    cases h with
    | non => exact .non
    | bl b => exact .bl b
    | int i => exact .int i
    | str x => exact .str x
    | lst h a =>
      simp only [okD, Bool.and_eq_true, decide_eq_true_eq, List.all_eq_true] at ho
      exact .lst (.inl (.inl h)) (key _ _ a ho.2)
    | tup h a =>
      simp only [okD, Bool.and_eq_true, decide_eq_true_eq, List.all_eq_true] at ho
      exact .tup (.inl (.inl h)) (key _ _ a ho.2)
    | dk h => simp [okD] at ho
theorem eqv_refl {n : Nat} : ∀ {k : Nat} {d : PyData}, okD n k d = true → PyData.eqv d d = true := by
  intro k
  induction k with
  | zero =>
    intro d e
    cases d <;> simp_all [okD, PyData.eqv]
  | succ k ih =>
    intro d e
    have key : ∀ ds : List PyData, (∀ x ∈ ds, okD n k x = true) → PyData.eqvAll ds ds = true := by
      intro ds
      induction ds with
      | nil => intro _; rfl
      | cons x r ihr =>
        intro h
        show (PyData.eqv x x && PyData.eqvAll r r) = true
        rw [ih (h x (List.mem_cons.mpr (.inl rfl))), ihr fun y hy => h y (List.mem_cons.mpr (.inr hy))]
        rfl
    cases d with
    | list ds =>
      simp only [okD, Bool.and_eq_true, decide_eq_true_eq, List.all_eq_true] at e
      exact key ds e.2
    | tuple ds =>
      simp only [okD, Bool.and_eq_true, decide_eq_true_eq, List.all_eq_true] at e
      exact key ds e.2
    | _ => simp_all [okD, PyData.eqv]
end Sn
namespace Sn
open PySem PySem.Spec PyProof.Rows L2
abbrev D := PyData
/-- the drawing state; a shared thing by its number; any other object by its place -/
def dSt : D := .dict [(.none, .none)]
def dCell (n : Nat) : D := .dict [(.none, .int n)]
/-- the script -/
def dScr : D := .dict [(.none, .bool true)]
def dRef (a : Addr) : D := .dict [(.none, .tuple [.int (a : Nat)])]
/-- an own class's object: its class's place, its attributes -/
def dIns (C : Addr) (fs : List (Str × D)) : D := .dict ((.none, .list [.int (C : Nat)]) :: fs.map fun p => (.str p.1, p.2))
/-- no dict of data: a sign for another thing -/
def isTok : List (D × D) → Bool
  | (.none, _) :: _ => true
  | _ => false
def keyD : Key → D
  | .inl i => .int i
  | .inr z => .str z
/-- where the drawing state and the shared things stand; bo: the parameters (by slot) that a def may change, and where they stand -/
structure Amb where
  d : Addr
  g : Addr
  c : Addr
  as : List Addr
  s : Addr
  sk : Bool
  ns : List Int
  bo : List (Nat × Addr)
/-- how many numbers were mixed at most; what the shared things hold -/
structure Rs where
  m : Nat
  cs : List D
  sl : Nat
def Amb.U (A : Amb) (a : Addr) : Prop := a = A.d ∨ a = A.g ∨ a = A.c ∨ a ∈ A.as ∨ (A.sk = true ∧ a = A.s)
/-- a dict stands at a; it may be locked (a loop walks it) -/
def IsK (H : Hp) (a : Addr) (xs : List (Key × V)) : Prop := H a = some (.dK xs) ∨ ∃ o, H a = some (.frz o (.dK xs))
theorem IsK.mov {H H' : Hp} {a : Addr} {xs : List (Key × V)} (h : IsK H a xs) (k : ∀ o, H a = some o → H' a = some o) : IsK H' a xs := h.imp (k _) fun ⟨o, h⟩ => ⟨o, k _ h⟩
theorem IsK.some {H : Hp} {a : Addr} {xs : List (Key × V)} (h : IsK H a xs) : H a ≠ none := by
  rcases h with h | ⟨o, h⟩ <;> (rw [h]; intro z; cases z)
mutual
/-- v is the data d; lists and dicts in it stand at places of W (they stay as they are) -/
inductive Dw (K : PySem.W.Frag) (A : Amb) (W : Addr → Prop) (H : Hp) : V → D → Prop
  | non : Dw K A W H .non .none
  | bl (b : Bool) : Dw K A W H (.bl b) (.bool b)
  | int (i : Int) : Dw K A W H (.int i) (.int i)
  | str (z : Str) : Dw K A W H (.str z) (.str z)
  | tup {a : Addr} {xs : List V} {ds : List D} : SqT K H a xs → DwA K A W H xs ds → Dw K A W H (.ref a) (.tuple ds)
  | lst {a : Addr} {xs : List V} {ds : List D} : W a → H a = some (.lst xs) → DwA K A W H xs ds → Dw K A W H (.ref a) (.list ds)
  | dk {a : Addr} {xs : List (Key × V)} {ds : List (D × D)} : W a → IsK H a xs → DwK K A W H xs ds → Dw K A W H (.ref a) (.dict ds)
  | st : Dw K A W H (.ref A.d) dSt
  | scr : Dw K A W H (.ref A.s) dScr
  | cell {n : Nat} {a : Addr} : A.as[n]? = some a → Dw K A W H (.ref a) (dCell n)
  | obj (a : Addr) : Dw K A W H (.ref a) (dRef a)
  | ins {a C dx : Addr} {xs : List (Str × V)} {ds : List (Str × D)} : W a → W dx → H a = some (.ins C dx xs) → H dx = some (.own a) → DwF K A W H xs ds → Dw K A W H (.ref a) (dIns C ds)
inductive DwA (K : PySem.W.Frag) (A : Amb) (W : Addr → Prop) (H : Hp) : List V → List D → Prop
  | nil : DwA K A W H [] []
  | cons {v : V} {vs : List V} {d : D} {ds : List D} : Dw K A W H v d → DwA K A W H vs ds → DwA K A W H (v :: vs) (d :: ds)
inductive DwK (K : PySem.W.Frag) (A : Amb) (W : Addr → Prop) (H : Hp) : List (Key × V) → List (D × D) → Prop
  | nil : DwK K A W H [] []
  | cons {k : Key} {v : V} {vs : List (Key × V)} {d : D} {ds : List (D × D)} : Dw K A W H v d → DwK K A W H vs ds → DwK K A W H ((k, v) :: vs) ((keyD k, d) :: ds)
inductive DwF (K : PySem.W.Frag) (A : Amb) (W : Addr → Prop) (H : Hp) : List (Str × V) → List (Str × D) → Prop
  | nil : DwF K A W H [] []
  | cons {k : Str} {v : V} {vs : List (Str × V)} {d : D} {ds : List (Str × D)} : Dw K A W H v d → DwF K A W H vs ds → DwF K A W H ((k, v) :: vs) ((k, d) :: ds)
end
/-- what was there stays, but what the state and the shared things hold; what froze newly is new -/
structure Ext (K : PySem.W.Frag) (A : Amb) (W : Addr → Prop) (H : Hp) (W' : Addr → Prop) (H' : Hp) : Prop where
  fr : ∀ a o, ¬ A.U a → H a = some o → H' a = some o
  al : ∀ a, H' a = none → H a = none
  tp : ∀ a xs, SqT K H a xs → SqT K H' a xs
  wk : ∀ a, W a → W' a
  wn : ∀ a, W' a → W a ∨ H a = none
section
variable {K : PySem.W.Frag} {A : Amb} {W W' W2 : Addr → Prop} {H H' H2 : Hp}
theorem Ext.refl : Ext K A W H W H := ⟨fun _ _ _ e => e, fun _ e => e, fun _ _ e => e, fun _ e => e, fun _ e => .inl e⟩
theorem Ext.trans (x : Ext K A W H W' H') (y : Ext K A W' H' W2 H2) : Ext K A W H W2 H2 :=
  ⟨fun a o n e => y.fr a o n (x.fr a o n e), fun a e => x.al a (y.al a e), fun a xs e => y.tp a xs (x.tp a xs e), fun a e => y.wk a (x.wk a e),
   fun a e => (y.wn a e).elim (x.wn a) fun q => .inr (x.al a q)⟩
theorem sqT_same {a : Addr} {xs : List V} (s : Same H H') (h : SqT K H a xs) : SqT K H' a xs := by
  rcases h with (h | ⟨o, h⟩) | h
  · exact .inl (.inl (s _ _ h))
  · exact .inl (.inr ⟨o, s _ _ h⟩)
  · exact .inr h
theorem al_same (s : Same H H') : ∀ a, H' a = none → H a = none := fun a e => by
  cases h : H a with
  | none => rfl
  | some o => rw [s a o h] at e; cases e
theorem Ext.same (s : Same H H') : Ext K A W H W H' := ⟨fun a o _ e => s a o e, al_same s, fun a xs e => sqT_same s e, fun _ e => e, fun _ e => .inl e⟩
theorem Ext.new {p : Addr} {o : HO} (hp : H p = none) : Ext K A W H W (upd H p o) := Ext.same (same_new hp)
/-- frozen together with a new place -/
def wPlus (W : Addr → Prop) (p : Addr) : Addr → Prop := fun a => W a ∨ a = p
theorem Ext.plus {p : Addr} (x : Ext K A W H W' H') (hp : H p = none) : Ext K A W H (wPlus W' p) H' :=
  ⟨x.fr, x.al, x.tp, fun a e => .inl (x.wk a e), fun a e => e.elim (x.wn a) fun q => .inr (by rw [q]; exact hp)⟩
mutual
theorem Dw.mov (hw : ∀ a, W a → W' a) (hl : ∀ a o, W a → H a = some o → H' a = some o) (ht : ∀ a xs, SqT K H a xs → SqT K H' a xs) : ∀ {v : V} {d : D}, Dw K A W H v d → Dw K A W' H' v d
  | _, _, .non => .non
  | _, _, .bl b => .bl b
  | _, _, .int i => .int i
  | _, _, .str z => .str z
  | _, _, .tup h a => .tup (ht _ _ h) (DwA.mov hw hl ht a)
  | _, _, .lst w h a => .lst (hw _ w) (hl _ _ w h) (DwA.mov hw hl ht a)
  | _, _, .dk w h a => .dk (hw _ w) (h.mov fun o => hl _ o w) (DwK.mov hw hl ht a)
  | _, _, .st => .st
  | _, _, .scr => .scr
  | _, _, .cell h => .cell h
  | _, _, .obj a => .obj a
  | _, _, .ins w w2 h h2 a => .ins (hw _ w) (hw _ w2) (hl _ _ w h) (hl _ _ w2 h2) (DwF.mov hw hl ht a)
theorem DwA.mov (hw : ∀ a, W a → W' a) (hl : ∀ a o, W a → H a = some o → H' a = some o) (ht : ∀ a xs, SqT K H a xs → SqT K H' a xs) : ∀ {v : List V} {d : List D}, DwA K A W H v d → DwA K A W' H' v d
  | _, _, .nil => .nil
  | _, _, .cons h a => .cons (Dw.mov hw hl ht h) (DwA.mov hw hl ht a)
theorem DwK.mov (hw : ∀ a, W a → W' a) (hl : ∀ a o, W a → H a = some o → H' a = some o) (ht : ∀ a xs, SqT K H a xs → SqT K H' a xs) : ∀ {v : List (Key × V)} {d : List (D × D)}, DwK K A W H v d → DwK K A W' H' v d
  | _, _, .nil => .nil
  | _, _, .cons h a => .cons (Dw.mov hw hl ht h) (DwK.mov hw hl ht a)
theorem DwF.mov (hw : ∀ a, W a → W' a) (hl : ∀ a o, W a → H a = some o → H' a = some o) (ht : ∀ a xs, SqT K H a xs → SqT K H' a xs) : ∀ {v : List (Str × V)} {d : List (Str × D)}, DwF K A W H v d → DwF K A W' H' v d
  | _, _, .nil => .nil
  | _, _, .cons h a => .cons (Dw.mov hw hl ht h) (DwF.mov hw hl ht a)
end
mutual
/-- the places of another def's parameters -/
theorem Dw.reb {B : Amb} (h1 : B.d = A.d) (h2 : B.s = A.s) (h3 : B.as = A.as) : ∀ {v : V} {d : D}, Dw K A W H v d → Dw K B W H v d
  | _, _, .non => .non
  | _, _, .bl b => .bl b
  | _, _, .int i => .int i
  | _, _, .str z => .str z
  | _, _, .tup h a => .tup h (DwA.reb h1 h2 h3 a)
  | _, _, .lst w h a => .lst w h (DwA.reb h1 h2 h3 a)
  | _, _, .dk w h a => .dk w h (DwK.reb h1 h2 h3 a)
  | _, _, .st => by rw [← h1]; exact .st
  | _, _, .scr => by rw [← h2]; exact .scr
  | _, _, .cell h => .cell (by rw [h3]; exact h)
  | _, _, .obj a => .obj a
  | _, _, .ins w w2 h h2' a => .ins w w2 h h2' (DwF.reb h1 h2 h3 a)
theorem DwA.reb {B : Amb} (h1 : B.d = A.d) (h2 : B.s = A.s) (h3 : B.as = A.as) : ∀ {v : List V} {d : List D}, DwA K A W H v d → DwA K B W H v d
  | _, _, .nil => .nil
  | _, _, .cons h a => .cons (Dw.reb h1 h2 h3 h) (DwA.reb h1 h2 h3 a)
theorem DwK.reb {B : Amb} (h1 : B.d = A.d) (h2 : B.s = A.s) (h3 : B.as = A.as) : ∀ {v : List (Key × V)} {d : List (D × D)}, DwK K A W H v d → DwK K B W H v d
  | _, _, .nil => .nil
  | _, _, .cons h a => .cons (Dw.reb h1 h2 h3 h) (DwK.reb h1 h2 h3 a)
theorem DwF.reb {B : Amb} (h1 : B.d = A.d) (h2 : B.s = A.s) (h3 : B.as = A.as) : ∀ {v : List (Str × V)} {d : List (Str × D)}, DwF K A W H v d → DwF K B W H v d
  | _, _, .nil => .nil
  | _, _, .cons h a => .cons (Dw.reb h1 h2 h3 h) (DwF.reb h1 h2 h3 a)
end
theorem Dw.ext {v : V} {d : D} (h : Dw K A W H v d) (x : Ext K A W H W' H') (av : ∀ a, W a → ¬ A.U a) : Dw K A W' H' v d := Dw.mov x.wk (fun a o w e => x.fr a o (av a w) e) x.tp h
theorem DwA.ext {v : List V} {d : List D} (h : DwA K A W H v d) (x : Ext K A W H W' H') (av : ∀ a, W a → ¬ A.U a) : DwA K A W' H' v d := DwA.mov x.wk (fun a o w e => x.fr a o (av a w) e) x.tp h
theorem DwK.ext {v : List (Key × V)} {d : List (D × D)} (h : DwK K A W H v d) (x : Ext K A W H W' H') (av : ∀ a, W a → ¬ A.U a) : DwK K A W' H' v d := DwK.mov x.wk (fun a o w e => x.fr a o (av a w) e) x.tp h
theorem DwF.ext {v : List (Str × V)} {d : List (Str × D)} (h : DwF K A W H v d) (x : Ext K A W H W' H') (av : ∀ a, W a → ¬ A.U a) : DwF K A W' H' v d := DwF.mov x.wk (fun a o w e => x.fr a o (av a w) e) x.tp h
theorem DwA.len : ∀ {vs : List V} {ds : List D}, DwA K A W H vs ds → vs.length = ds.length
  | _, _, .nil => rfl
  | _, _, .cons _ a => by rw [List.length_cons, List.length_cons, a.len]
theorem DwK.len : ∀ {vs : List (Key × V)} {ds : List (D × D)}, DwK K A W H vs ds → vs.length = ds.length
  | _, _, .nil => rfl
  | _, _, .cons _ a => by rw [List.length_cons, List.length_cons, a.len]
theorem DwA.get : ∀ {vs : List V} {ds : List D}, DwA K A W H vs ds → ∀ {i : Nat} {d : D}, ds[i]? = some d → ∃ v, vs[i]? = some v ∧ Dw K A W H v d
  | _, _, .nil, i, v, h => by simp at h
  | _, _, .cons h a, 0, v, e => by
    simp only [List.getElem?_cons_zero, Option.some.injEq] at e
    subst e
    exact ⟨_, rfl, h⟩
  | _, _, .cons h a, i + 1, v, e => by
    simp only [List.getElem?_cons_succ] at e ⊢
    exact a.get e
theorem DwA.getV : ∀ {vs : List V} {ds : List D}, DwA K A W H vs ds → ∀ {i : Nat} {v : V}, vs[i]? = some v → ∃ d, ds[i]? = some d ∧ Dw K A W H v d
  | _, _, .nil, i, v, h => by simp at h
  | _, _, .cons h a, 0, v, e => by
    simp only [List.getElem?_cons_zero, Option.some.injEq] at e
    subst e
    exact ⟨_, rfl, h⟩
  | _, _, .cons h a, i + 1, v, e => by
    simp only [List.getElem?_cons_succ] at e ⊢
    exact a.getV e
theorem DwA.app : ∀ {vs ws : List V} {ds es : List D}, DwA K A W H vs ds → DwA K A W H ws es → DwA K A W H (vs ++ ws) (ds ++ es)
  | _, _, _, _, .nil, b => b
  | _, _, _, _, .cons h a, b => .cons h (a.app b)
theorem DwA.take : ∀ {vs : List V} {ds : List D}, DwA K A W H vs ds → ∀ n, DwA K A W H (vs.take n) (ds.take n)
  | _, _, .nil, n => by simp; exact .nil
  | _, _, .cons h a, 0 => .nil
  | _, _, .cons h a, n + 1 => .cons h (a.take n)
theorem DwA.drop : ∀ {vs : List V} {ds : List D}, DwA K A W H vs ds → ∀ n, DwA K A W H (vs.drop n) (ds.drop n)
  | _, _, .nil, n => by simp; exact .nil
  | _, _, .cons h a, 0 => .cons h a
  | _, _, .cons h a, n + 1 => a.drop n
theorem DwF.len : ∀ {vs : List (Str × V)} {ds : List (Str × D)}, DwF K A W H vs ds → vs.length = ds.length
  | _, _, .nil => rfl
  | _, _, .cons _ a => by rw [List.length_cons, List.length_cons, a.len]
/-- what stands at a place of its own: a list, a dict or an own class's object, of frozen things -/
inductive Own (K : PySem.W.Frag) (A : Amb) (W : Addr → Prop) (H : Hp) (a : Addr) : D → Prop
  | lst {xs : List V} {ds : List D} : H a = some (.lst xs) → DwA K A W H xs ds → Own K A W H a (.list ds)
  | dk {xs : List (Key × V)} {ds : List (D × D)} : H a = some (.dK xs) → DwK K A W H xs ds → Own K A W H a (.dict ds)
  | ins {C dx : Addr} {xs : List (Str × V)} {ds : List (Str × D)} : W dx → H a = some (.ins C dx xs) → H dx = some (.own a) → DwF K A W H xs ds → Own K A W H a (dIns C ds)
theorem Own.mov {a : Addr} {d : D} (hw : ∀ a, W a → W' a) (hl : ∀ a o, W a → H a = some o → H' a = some o) (ht : ∀ a xs, SqT K H a xs → SqT K H' a xs) (h : Own K A W H a d) (ha : ∀ o, H a = some o → H' a = some o) : Own K A W' H' a d := by
  cases h with
  | lst h q => exact .lst (ha _ h) (DwA.mov hw hl ht q)
  | dk h q => exact .dk (ha _ h) (DwK.mov hw hl ht q)
  | ins w h h2 q => exact .ins (hw _ w) (ha _ h) (hl _ _ w h2) (DwF.mov hw hl ht q)
theorem Own.reb {B : Amb} {a : Addr} {d : D} (h1 : B.d = A.d) (h2 : B.s = A.s) (h3 : B.as = A.as) (h : Own K A W H a d) : Own K B W H a d := by
  cases h with
  | lst h q => exact .lst h (q.reb h1 h2 h3)
  | dk h q => exact .dk h (q.reb h1 h2 h3)
  | ins w h h2' q => exact .ins w h h2' (q.reb h1 h2 h3)
theorem Own.ext {a : Addr} {d : D} (h : Own K A W H a d) (x : Ext K A W H W' H') (av : ∀ a, W a → ¬ A.U a) (ha : ∀ o, H a = some o → H' a = some o) : Own K A W' H' a d := h.mov x.wk (fun a o w e => x.fr a o (av a w) e) x.tp ha
theorem Own.isSome {a : Addr} {d : D} (h : Own K A W H a d) : H a ≠ none := by
  cases h with
  | lst h q => rw [h]; intro z; cases z
  | dk h q => rw [h]; intro z; cases z
  | ins w h h2 q => rw [h]; intro z; cases z
/-- an owned thing is frozen -/
theorem Own.dw {a : Addr} {d : D} (h : Own K A W H a d) (ha : W a) : Dw K A W H (.ref a) d := by
  cases h with
  | lst h q => exact .lst ha h q
  | dk h q => exact .dk ha (.inl h) q
  | ins w h h2 q => exact .ins ha w h h2 q
/-- a code object that bears the name q -/
def cdO (c : Addr) (q : Str) : HO := .ext fun g => ∃ (ob : Obj) (us : Array Value) (tk : Tok), g.get? c = some ob ∧ (ob.data = .fields us ∧ us[1]? = some (.str q tk))
/-- the table of a def's inner code objects, at P; it grows -/
def dTab (P : Addr) (q : Str) : D := .dict [(.none, .list [.int (P : Nat), .str q, dCell 0])]
/-- its rows: each code object there bears the name q, and stays -/
def TabW (W : Addr → Prop) (H : Hp) (P : Addr) (q : Str) : Prop := ∃ ps : Array Value, H P = some (.tbl ps) ∧ TriplesOk ps.toList ∧ ∀ (pos : Pos) (cv : Value), codeAmong pos ps.toList = some cv → ∃ c, cv = .ref c ∧ W c ∧ H c = some (cdO c q)
/-- what stands at a shared place -/
inductive Cel (K : PySem.W.Frag) (A : Amb) (W : Addr → Prop) (H : Hp) (a : Addr) : D → Prop
  | own {d : D} : Own K A W H a d → Cel K A W H a d
  | tb {q : Str} : TabW W H a q → Cel K A W H a (dTab a q)
theorem Cel.mov {a : Addr} {d : D} (hw : ∀ a, W a → W' a) (hl : ∀ a o, W a → H a = some o → H' a = some o) (ht : ∀ a xs, SqT K H a xs → SqT K H' a xs) (h : Cel K A W H a d) (ha : ∀ o, H a = some o → H' a = some o) : Cel K A W' H' a d := by
  cases h with
  | own h => exact .own (h.mov hw hl ht ha)
  | tb h =>
    obtain ⟨ps, h1, h2, h3⟩ := h
    refine .tb ⟨ps, ha _ h1, h2, fun pos cv hc => ?_⟩
    obtain ⟨c, e, w, hcd⟩ := h3 pos cv hc
    exact ⟨c, e, hw _ w, hl _ _ w hcd⟩
theorem Cel.reb {B : Amb} {a : Addr} {d : D} (h1 : B.d = A.d) (h2 : B.s = A.s) (h3 : B.as = A.as) (h : Cel K A W H a d) : Cel K B W H a d := by
  cases h with
  | own h => exact .own (h.reb h1 h2 h3)
  | tb h => exact .tb h
theorem Cel.ext {a : Addr} {d : D} (h : Cel K A W H a d) (x : Ext K A W H W' H') (av : ∀ a, W a → ¬ A.U a) (ha : ∀ o, H a = some o → H' a = some o) : Cel K A W' H' a d := h.mov x.wk (fun a o w e => x.fr a o (av a w) e) x.tp ha
theorem Cel.isSome {a : Addr} {d : D} (h : Cel K A W H a d) : H a ≠ none := by
  cases h with
  | own h => exact h.isSome
  | tb h =>
    obtain ⟨ps, h1, _⟩ := h
    rw [h1]; intro z; cases z
theorem Cel.own' {a : Addr} {d : D} (h : Cel K A W H a d) (n : ∀ q, d ≠ dTab a q) : Own K A W H a d := by
  cases h with
  | own h => exact h
  | tb h => exact absurd rfl (n _)
theorem Cel.ofL {a : Addr} {ds : List D} (h : Cel K A W H a (.list ds)) : Own K A W H a (.list ds) := h.own' fun q z => by cases z
/-- .. a dict among them may be locked -/
inductive OwnL (K : PySem.W.Frag) (A : Amb) (W : Addr → Prop) (H : Hp) (a : Addr) : D → Prop
  | own {d : D} : Own K A W H a d → OwnL K A W H a d
  | lk {o : Obj} {xs : List (Key × V)} {ds : List (D × D)} : H a = some (.frz o (.dK xs)) → DwK K A W H xs ds → OwnL K A W H a (.dict ds)
theorem OwnL.mov {a : Addr} {d : D} (hw : ∀ a, W a → W' a) (hl : ∀ a o, W a → H a = some o → H' a = some o) (ht : ∀ a xs, SqT K H a xs → SqT K H' a xs) (h : OwnL K A W H a d) (ha : ∀ o, H a = some o → H' a = some o) : OwnL K A W' H' a d := by
  cases h with
  | own h => exact .own (h.mov hw hl ht ha)
  | lk h q => exact .lk (ha _ h) (DwK.mov hw hl ht q)
theorem OwnL.ext {a : Addr} {d : D} (h : OwnL K A W H a d) (x : Ext K A W H W' H') (av : ∀ a, W a → ¬ A.U a) (ha : ∀ o, H a = some o → H' a = some o) : OwnL K A W' H' a d := h.mov x.wk (fun a o w e => x.fr a o (av a w) e) x.tp ha
theorem OwnL.isSome {a : Addr} {d : D} (h : OwnL K A W H a d) : H a ≠ none := by
  cases h with
  | own h => exact h.isSome
  | lk h q => rw [h]; intro z; cases z
theorem OwnL.reb {B : Amb} {a : Addr} {d : D} (h1 : B.d = A.d) (h2 : B.s = A.s) (h3 : B.as = A.as) (h : OwnL K A W H a d) : OwnL K B W H a d := by
  cases h with
  | own h => exact .own (h.reb h1 h2 h3)
  | lk h q => exact .lk h (q.reb h1 h2 h3)
/-- the script stands -/
def ScrOk (K : PySem.W.Frag) (A : Amb) (H : Hp) : Prop := (A.sk = true ∧ Rd H A.s (.lst (A.ns.map V.int))) ∨ (A.sk = false ∧ ∃ (o : Obj) (its : Array Value) (n : Nat), K.lookup A.s = some o ∧ o.cls = .type "list" ∧ o.dict = none ∧ o.data = .seq its n ∧ its.size ≤ sizeLine ∧ Vals (A.ns.map V.int) its.toList)
theorem ScrOk.mov {K : PySem.W.Frag} {A : Amb} {H H' : Hp} (h : ScrOk K A H) (k : A.sk = true → ∀ o, H A.s = some o → H' A.s = some o) : ScrOk K A H' := by
  rcases h with ⟨e, h⟩ | h
  · refine .inl ⟨e, ?_⟩
    rcases h with h | ⟨o, h⟩
    · exact .inl (k e _ h)
    · exact .inr ⟨o, k e _ h⟩
  · exact .inr h
theorem ScrOk.some {K : PySem.W.Frag} {A : Amb} {H : Hp} (h : ScrOk K A H) (e : A.sk = true) : H A.s ≠ none := by
  rcases h with ⟨_, h⟩ | ⟨e', _⟩
  · rcases h with h | ⟨o, h⟩ <;> (rw [h]; intro z; cases z)
  · rw [e] at e'; cases e'
theorem ScrOk.seq {K : PySem.W.Frag} {A : Amb} {H : Hp} (h : ScrOk K A H) : SqL K H A.s (A.ns.map V.int) := by
  rcases h with ⟨_, h⟩ | ⟨_, h⟩
  · exact .inl h
  · exact .inr h
/-- the state and the shared things stand -/
structure Res (K : PySem.W.Frag) (A : Amb) (W : Addr → Prop) (H : Hp) (r : Rs) : Prop where
  dr : Dr H A.d A.g A.c r.m
  sc : ScrOk K A H
  sl : r.sl = A.ns.length
  sg : A.sk = true → A.s ≠ A.g
  le : A.as.length = r.cs.length
  ce : ∀ (n : Nat) (a : Addr) (d : D), A.as[n]? = some a → r.cs[n]? = some d → Cel K A W H a d
  nd : A.as.Nodup
  na : A.d ∉ A.as ∧ A.g ∉ A.as ∧ A.c ∉ A.as ∧ (A.sk = true → A.s ∉ A.as)
  av : ∀ a, W a → ¬ A.U a
  wa : ∀ a, W a → H a ≠ none
theorem Res.same {r : Rs} (h : Res K A W H r) (s : Same H H') : Res K A W H' r :=
  ⟨h.dr.same s, h.sc.mov (fun _ o e => s _ o e), h.sl, h.sg, h.le, fun n a d e1 e2 => (h.ce n a d e1 e2).ext (Ext.same s) h.av fun o e => s _ _ e, h.nd, h.na, h.av, fun a w e => h.wa a w (al_same s a e)⟩
theorem Res.plus {r : Rs} {p : Addr} (h : Res K A W H r) (hp : ¬ A.U p) (hs : H p ≠ none) : Res K A (wPlus W p) H r :=
  ⟨h.dr, h.sc, h.sl, h.sg, h.le, fun n a d e1 e2 => (h.ce n a d e1 e2).mov (fun _ e => .inl e) (fun _ _ _ e => e) (fun _ _ e => e) fun o e => e, h.nd, h.na, fun a e => e.elim (h.av a) fun q => by rw [q]; exact hp, fun a e => e.elim (h.wa a) fun q => by rw [q]; exact hs⟩
theorem Res.uSome {r : Rs} {a : Addr} (h : Res K A W H r) (u : A.U a) : H a ≠ none := by
  rcases u with rfl | rfl | rfl | u | ⟨sk, rfl⟩
  · obtain ⟨l, t, _, _, e⟩ := h.dr.di
    rw [e]; intro z; cases z
  · obtain ⟨l, e⟩ := h.dr.gr
    rw [e]; intro z; cases z
  · obtain ⟨l, e⟩ := h.dr.ce
    rw [e]; intro z; cases z
  · obtain ⟨n, hn, e⟩ := List.getElem_of_mem u
    have h1 : n < r.cs.length := by rw [← h.le]; exact hn
    exact (h.ce n a r.cs[n] (by rw [← e]; exact List.getElem?_eq_getElem hn) (List.getElem?_eq_getElem h1)).isSome
  · exact h.sc.some sk
theorem Res.uNew {r : Rs} {p : Addr} (h : Res K A W H r) (hp : H p = none) : ¬ A.U p := fun u => h.uSome u hp
end
/-- the same places, for another def's parameters -/
structure Amb.Like (A B : Amb) : Prop where
  d : B.d = A.d
  g : B.g = A.g
  c : B.c = A.c
  as : B.as = A.as
  s : B.s = A.s
  sk : B.sk = A.sk
  ns : B.ns = A.ns
theorem Amb.Like.sym {A B : Amb} (h : A.Like B) : B.Like A := ⟨h.d.symm, h.g.symm, h.c.symm, h.as.symm, h.s.symm, h.sk.symm, h.ns.symm⟩
theorem Amb.Like.U {A B : Amb} (h : A.Like B) (a : Addr) : B.U a ↔ A.U a := by
  unfold Amb.U
  rw [h.d, h.g, h.c, h.as, h.s, h.sk]
def Amb.reb (A : Amb) (b : List (Nat × Addr)) : Amb := { A with bo := b }
theorem Amb.like (A : Amb) (b : List (Nat × Addr)) : A.Like (A.reb b) := ⟨rfl, rfl, rfl, rfl, rfl, rfl, rfl⟩
section
variable {K : PySem.W.Frag} {A B : Amb} {W W' : Addr → Prop} {H H' : Hp} {r : Rs}
theorem Ext.reb (l : A.Like B) (x : Ext K A W H W' H') : Ext K B W H W' H' := ⟨fun a o u e => x.fr a o (fun z => u ((l.U a).mpr z)) e, x.al, x.tp, x.wk, x.wn⟩
theorem Res.reb (l : A.Like B) (R : Res K A W H r) : Res K B W H r := by
  have e : B = { A with bo := B.bo } := by
    cases A; cases B
    obtain ⟨h1, h2, h3, h4, h5, h6, h7⟩ := l
    simp only at h1 h2 h3 h4 h5 h6 h7
    subst h1 h2 h3 h4 h5 h6 h7
    rfl
  refine ⟨by rw [l.d, l.g, l.c]; exact R.dr, ?_, by rw [l.ns]; exact R.sl, by rw [l.sk, l.s, l.g]; exact R.sg, by rw [l.as]; exact R.le, fun n a d e1 e2 => (R.ce n a d (by rw [← l.as]; exact e1) e2).reb l.d l.s l.as, by rw [l.as]; exact R.nd, by rw [l.as, l.d, l.g, l.c, l.sk, l.s]; exact R.na, fun a w u => R.av a w ((l.U a).mp u), R.wa⟩
  have h := R.sc
  unfold ScrOk at h ⊢
  rw [l.sk, l.s, l.ns]
  exact h
end
abbrev En := List (Option D)
/-- slot i is among O a thing of its own that the def may change; .. that may be put elsewhere, too.
O tells of a slot i: i + 1000: the place was handed in, and is handed back (a parameter that the def changes); i + 2000: it is read alone -/
def Fre (O : List Nat) (i : Nat) : Prop := i ∈ O ∧ i + 2000 ∉ O
def Rep (O : List Nat) (i : Nat) : Prop := i + 2000 ∉ O ∧ i + 1000 ∉ O ∧ i < 1000
instance (O : List Nat) (i : Nat) : Decidable (Fre O i) := by unfold Fre; infer_instance
instance (O : List Nat) (i : Nat) : Decidable (Rep O i) := by unfold Rep; infer_instance
/-- the slots σ hold the data ρ: those of O each a thing of its own, all others frozen things -/
structure Env (K : PySem.W.Frag) (A : Amb) (W0 : Addr → Prop) (H0 : Hp) (O : List Nat) (W : Addr → Prop) (σ : L2.St) (H : Hp) (ρ : En) (r : Rs) : Prop where
  len : σ.length = ρ.length
  var : ∀ (i : Nat) (d : D), ρ[i]? = some (some d) → i ∉ O → ∃ v, σ[i]? = some (some v) ∧ Dw K A W H v d
  own : ∀ (i : Nat) (d : D), ρ[i]? = some (some d) → Fre O i → ∃ a, σ[i]? = some (some (.ref a)) ∧ Own K A W H a d ∧ ¬ W a ∧ ¬ A.U a ∧ H0 a = none
  rdo : ∀ (i : Nat) (d : D), ρ[i]? = some (some d) → i + 2000 ∈ O → ∃ v, σ[i]? = some (some v) ∧ (Dw K A W H v d ∨ ∃ a, v = .ref a ∧ OwnL K A W H a d ∧ ¬ A.U a ∧ H0 a ≠ none) ∧ ∀ a kvs, v = .ref a → d = .dict kvs → isTok kvs = false → H0 a ≠ none
  rin : ∀ i, i + 2000 ∈ O → i ∈ O
  bor : ∀ (i : Nat) (a : Addr), (i, a) ∈ A.bo → Fre O i ∧ i + 1000 ∈ O ∧ i < 1000 ∧ σ[i]? = some (some (.ref a)) ∧ ∃ d, ρ[i]? = some (some d)
  dis : ∀ (i j : Nat) (a : Addr) (d e : D), Fre O i → Fre O j → i ≠ j → ρ[i]? = some (some d) → ρ[j]? = some (some e) → σ[i]? = some (some (.ref a)) → σ[j]? = some (some (.ref a)) → False
  res : Res K A W H r
  bs : Ext K A W0 H0 W H
section
variable {K : PySem.W.Frag} {A : Amb} {W0 W W' W2 : Addr → Prop} {H0 H H' H2 : Hp} {O : List Nat} {σ : L2.St} {ρ : En} {r r' : Rs} {v : V} {d : D} {i : Nat} {a : Addr}
theorem Env.ext (E : Env K A W0 H0 O W σ H ρ r) (x : Ext K A W H W' H') (s : Res K A W' H' r') : Env K A W0 H0 O W' σ H' ρ r' where
  len := E.len
  var := fun i d e n => by
    obtain ⟨v, h1, h2⟩ := E.var i d e n
    exact ⟨v, h1, h2.ext x E.res.av⟩
  own := fun i d e n => by
    obtain ⟨a, h1, h2, h3, h4, h5⟩ := E.own i d e n
    refine ⟨a, h1, h2.ext x E.res.av fun o q => x.fr a o h4 q, fun q => ?_, h4, h5⟩
    rcases x.wn a q with q | q
    · exact h3 q
    · exact h2.isSome q
  rdo := fun i d e n => by
    obtain ⟨v, h1, h2, hk⟩ := E.rdo i d e n
    refine ⟨v, h1, ?_, hk⟩
    rcases h2 with h2 | ⟨a, e, h2, h3, h4⟩
    · exact .inl (h2.ext x E.res.av)
    · exact .inr ⟨a, e, h2.ext x E.res.av fun o q => x.fr a o h3 q, h3, h4⟩
  rin := E.rin
  bor := E.bor
  dis := E.dis
  res := s
  bs := E.bs.trans x
theorem Env.same (E : Env K A W0 H0 O W σ H ρ r) (s : Same H H') : Env K A W0 H0 O W σ H' ρ r := E.ext (Ext.same s) (E.res.same s)
theorem Env.new {p : Addr} {o : HO} (E : Env K A W0 H0 O W σ H ρ r) (hp : H p = none) : Env K A W0 H0 O W σ (upd H p o) ρ r := E.same (same_new hp)
theorem Env.plus (E : Env K A W0 H0 O W σ H ρ r) {p : Addr} (hu : ¬ A.U p) (hs : H p ≠ none) (h0 : H0 p = none) (hO : ∀ (i : Nat) (d : D), ρ[i]? = some (some d) → Fre O i → σ[i]? ≠ some (some (.ref p))) : Env K A W0 H0 O (wPlus W p) σ H ρ r where
  len := E.len
  var := fun i d e n => by
    obtain ⟨v, h1, h2⟩ := E.var i d e n
    exact ⟨v, h1, h2.mov (fun _ e => .inl e) (fun _ _ _ e => e) fun _ _ e => e⟩
  own := fun i d e n => by
    obtain ⟨a, h1, h2, h3, h4, h5⟩ := E.own i d e n
    refine ⟨a, h1, h2.mov (fun _ e => .inl e) (fun _ _ _ e => e) (fun _ _ e => e) fun o q => q, fun q => ?_, h4, h5⟩
    rcases q with q | q
    · exact h3 q
    · exact hO i d e n (by rw [h1, q])
  rdo := fun i d e n => by
    obtain ⟨v, h1, h2, hk⟩ := E.rdo i d e n
    refine ⟨v, h1, ?_, hk⟩
    rcases h2 with h2 | ⟨a, e, h2, h3, h4⟩
    · exact .inl (h2.mov (fun _ e => .inl e) (fun _ _ _ e => e) fun _ _ e => e)
    · exact .inr ⟨a, e, h2.mov (fun _ e => .inl e) (fun _ _ _ e => e) (fun _ _ e => e) fun o q => q, h3, h4⟩
  rin := E.rin
  bor := E.bor
  dis := E.dis
  res := E.res.plus hu hs
  bs := E.bs.plus h0
theorem Env.nw (E : Env K A W0 H0 O W σ H ρ r) (h : H a = none) : ¬ W a := fun w => E.res.wa a w h
theorem Env.h0 (E : Env K A W0 H0 O W σ H ρ r) (h : H a = none) : H0 a = none := E.bs.al a h
/-- a new thing is none of the owned ones -/
theorem Env.fresh (E : Env K A W0 H0 O W σ H ρ r) (h : H a = none) : ∀ (i : Nat) (d : D), ρ[i]? = some (some d) → Fre O i → σ[i]? ≠ some (some (.ref a)) := fun i d e n q => by
  obtain ⟨b, h1, h2, _⟩ := E.own i d e n
  rw [h1] at q
  cases q
  exact h2.isSome h
theorem Env.set (E : Env K A W0 H0 O W σ H ρ r) (n : i ∉ O) (h : Dw K A W H v d) : Env K A W0 H0 O W (σ.set i (some v)) H (ρ.set i (some d)) r where
  len := by rw [List.length_set, List.length_set]; exact E.len
  var := fun j e h1 h2 => by
    by_cases q : i = j
    · subst q
      have hl : i < ρ.length := by
        have := (List.getElem?_eq_some_iff.mp h1).1
        rwa [List.length_set] at this
      rw [List.getElem?_set_self hl] at h1
      cases h1
      exact ⟨v, List.getElem?_set_self (by rw [E.len]; exact hl), h⟩
    · rw [List.getElem?_set_ne q] at h1 ⊢
      exact E.var j e h1 h2
  own := fun j e h1 h2 => by
    have q : i ≠ j := fun q => n (by rw [q]; exact h2.1)
    rw [List.getElem?_set_ne q] at h1 ⊢
    exact E.own j e h1 h2
  rdo := fun j e h1 h2 => by
    have q : i ≠ j := fun q => n (by rw [q]; exact E.rin j h2)
    rw [List.getElem?_set_ne q] at h1 ⊢
    exact E.rdo j e h1 h2
  rin := E.rin
  bor := fun j b h => by
    obtain ⟨h1, h2, h3, h4, d, h5⟩ := E.bor j b h
    have q : i ≠ j := fun q => n (by rw [q]; exact h1.1)
    exact ⟨h1, h2, h3, by rw [List.getElem?_set_ne q]; exact h4, d, by rw [List.getElem?_set_ne q]; exact h5⟩
  dis := fun j k a e1 e2 h1 h2 h3 h4 h5 h6 h7 => by
    have q1 : i ≠ j := fun q => n (by rw [q]; exact h1.1)
    have q2 : i ≠ k := fun q => n (by rw [q]; exact h2.1)
    rw [List.getElem?_set_ne q1] at h4 h6
    rw [List.getElem?_set_ne q2] at h5 h7
    exact E.dis j k a e1 e2 h1 h2 h3 h4 h5 h6 h7
  res := E.res
  bs := E.bs
/-- an owned name gets a new thing -/
theorem Env.setO (E : Env K A W0 H0 O W σ H ρ r) (n : i ∈ O) (nr : Rep O i) (h : Own K A W H a d) (hw : ¬ W a) (hu : ¬ A.U a) (h0 : H0 a = none) (hO : ∀ (j : Nat) (e : D), ρ[j]? = some (some e) → Fre O j → σ[j]? ≠ some (some (.ref a))) : Env K A W0 H0 O W (σ.set i (some (.ref a))) H (ρ.set i (some d)) r where
  len := by rw [List.length_set, List.length_set]; exact E.len
  var := fun j e h1 h2 => by
    have q : i ≠ j := fun q => h2 (by rw [← q]; exact n)
    rw [List.getElem?_set_ne q] at h1 ⊢
    exact E.var j e h1 h2
  own := fun j e h1 h2 => by
    by_cases q : i = j
    · subst q
      have hl : i < ρ.length := by
        have := (List.getElem?_eq_some_iff.mp h1).1
        rwa [List.length_set] at this
      rw [List.getElem?_set_self hl] at h1
      cases h1
      exact ⟨a, List.getElem?_set_self (by rw [E.len]; exact hl), h, hw, hu, h0⟩
    · rw [List.getElem?_set_ne q] at h1 ⊢
      exact E.own j e h1 h2
  rdo := fun j e h1 h2 => by
    have q : i ≠ j := fun q => nr.1 (by rw [q]; exact h2)
    rw [List.getElem?_set_ne q] at h1 ⊢
    exact E.rdo j e h1 h2
  rin := E.rin
  bor := fun j b h => by
    obtain ⟨h1, h2, h3, h4, d, h5⟩ := E.bor j b h
    have q : i ≠ j := fun q => nr.2.1 (by rw [q]; exact h2)
    exact ⟨h1, h2, h3, by rw [List.getElem?_set_ne q]; exact h4, d, by rw [List.getElem?_set_ne q]; exact h5⟩
  dis := fun j k b e1 e2 h1 h2 h3 h4 h5 h6 h7 => by
    by_cases q1 : i = j
    · have q2 : i ≠ k := fun q => h3 (q1.symm.trans q)
      subst q1
      have hl : i < σ.length := by
        have := (List.getElem?_eq_some_iff.mp h6).1
        rwa [List.length_set] at this
      rw [List.getElem?_set_self hl] at h6
      rw [List.getElem?_set_ne q2] at h5 h7
      cases h6
      exact hO k e2 h5 h2 h7
    · by_cases q2 : i = k
      · subst q2
        have hl : i < σ.length := by
          have := (List.getElem?_eq_some_iff.mp h7).1
          rwa [List.length_set] at this
        rw [List.getElem?_set_self hl] at h7
        rw [List.getElem?_set_ne q1] at h4 h6
        cases h7
        exact hO j e1 h4 h1 h6
      · rw [List.getElem?_set_ne q1] at h4 h6
        rw [List.getElem?_set_ne q2] at h5 h7
        exact E.dis j k b e1 e2 h1 h2 h3 h4 h5 h6 h7
  res := E.res
  bs := E.bs
theorem sqT_put {o o' : HO} {b : Addr} {xs : List V} (ha : H a = some o) (ho : ∀ ys u, o ≠ .tup ys ∧ o ≠ .frz u (.tup ys)) (h : SqT K H b xs) : SqT K (upd H a o') b xs := by
  rcases h with (h | ⟨u, h⟩) | h
  · refine .inl (.inl ?_)
    rw [upd_ne (fun z => by rw [z, ha] at h; cases h; exact (ho xs default).1 rfl)]
    exact h
  · refine .inl (.inr ⟨u, ?_⟩)
    rw [upd_ne (fun z => by rw [z, ha] at h; cases h; exact (ho xs u).2 rfl)]
    exact h
  · exact .inr h
theorem Own.noTup {o : HO} (h : Own K A W H a d) (e : H a = some o) : ∀ ys u, o ≠ .tup ys ∧ o ≠ .frz u (.tup ys) := by
  intro ys u
  cases h with
  | lst h q => rw [h] at e; cases e; exact ⟨fun z => (by cases z), fun z => (by cases z)⟩
  | dk h q => rw [h] at e; cases e; exact ⟨fun z => (by cases z), fun z => (by cases z)⟩
  | ins _ h _ q => rw [h] at e; cases e; exact ⟨fun z => (by cases z), fun z => (by cases z)⟩
/-- an owned thing is changed -/
theorem Env.mut {o' : HO} (E : Env K A W0 H0 O W σ H ρ r) (n : Fre O i) (e : ρ[i]? = some (some d)) (s : σ[i]? = some (some (.ref a))) {d' : D} (h : Own K A W H a d → Own K A W (upd H a o') a d' ) : Env K A W0 H0 O W σ (upd H a o') (ρ.set i (some d')) r := by
  obtain ⟨b, h1, h2, h3, h4, h5⟩ := E.own i d e n
  rw [s] at h1
  cases h1
  obtain ⟨o, ho⟩ : ∃ o, H a = some o := by
    cases q : H a with
    | none => exact absurd q h2.isSome
    | some o => exact ⟨o, rfl⟩
  have tp : ∀ b xs, SqT K H b xs → SqT K (upd H a o') b xs := fun b xs q => sqT_put ho (h2.noTup ho) q
  have fr : ∀ b o, b ≠ a → H b = some o → (upd H a o') b = some o := fun b o q z => by rw [upd_ne q]; exact z
  have wl : ∀ b o, W b → H b = some o → (upd H a o') b = some o := fun b o q z => fr b o (fun y => h3 (by rw [← y]; exact q)) z
  have hil : i < ρ.length := (List.getElem?_eq_some_iff.mp e).1
  refine { len := by rw [List.length_set]; exact E.len, var := fun j e1 q1 q2 => ?_, own := fun j e1 q1 q2 => ?_, rdo := fun j e1 q1 q2 => ?_, rin := E.rin, bor := fun j b q => ?_, dis := fun j k b e1 e2 q1 q2 q3 q4 q5 q6 q7 => ?_, res := ?_, bs := ?_ }
  · have q : i ≠ j := fun q => q2 (by rw [← q]; exact n.1)
    rw [List.getElem?_set_ne q] at q1
    obtain ⟨v, z1, z2⟩ := E.var j e1 q1 q2
    exact ⟨v, z1, z2.mov (fun _ e => e) wl tp⟩
  · by_cases q : i = j
    · subst q
      rw [List.getElem?_set_self hil] at q1
      cases q1
      exact ⟨a, s, h h2, h3, h4, h5⟩
    · rw [List.getElem?_set_ne q] at q1
      obtain ⟨b, z1, z2, z3, z4, z5⟩ := E.own j e1 q1 q2
      refine ⟨b, z1, z2.mov (fun _ e => e) wl tp fun o y => fr b o (fun y => ?_) y, z3, z4, z5⟩
      subst y
      exact E.dis i j b d e1 n q2 q e q1 s z1
  · have q : i ≠ j := fun q => n.2 (by rw [q]; exact q2)
    rw [List.getElem?_set_ne q] at q1
    obtain ⟨v, z1, z2, hk⟩ := E.rdo j e1 q1 q2
    refine ⟨v, z1, ?_, hk⟩
    rcases z2 with z2 | ⟨b, z2, z3, z4, z5⟩
    · exact .inl (z2.mov (fun _ e => e) wl tp)
    · exact .inr ⟨b, z2, z3.mov (fun _ e => e) wl tp fun o y => fr b o (fun y => z5 (by rw [y]; exact h5)) y, z4, z5⟩
  · obtain ⟨y1, y2, y3, y4, dd, y5⟩ := E.bor j b q
    refine ⟨y1, y2, y3, y4, ?_⟩
    by_cases q : i = j
    · subst q
      exact ⟨d', List.getElem?_set_self hil⟩
    · exact ⟨dd, by rw [List.getElem?_set_ne q]; exact y5⟩
  · have g : ∀ {j : Nat} {e1 : D}, (ρ.set i (some d'))[j]? = some (some e1) → ∃ e, ρ[j]? = some (some e) := fun {j e1} q => by
      by_cases y : i = j
      · subst y; exact ⟨d, e⟩
      · rw [List.getElem?_set_ne y] at q; exact ⟨_, q⟩
    obtain ⟨_, y4⟩ := g q4
    obtain ⟨_, y5⟩ := g q5
    exact E.dis j k b _ _ q1 q2 q3 y4 y5 q6 q7
  · refine ⟨?_, E.res.sc.mov (fun sk o q => fr _ o (fun y => h4 (by rw [← y]; exact .inr (.inr (.inr (.inr ⟨sk, rfl⟩))))) q), E.res.sl, E.res.sg, E.res.le, fun n b dd e1 e2 => (E.res.ce n b dd e1 e2).mov (fun _ e => e) wl tp fun o y => fr b o (fun y => h4 ?_) y, E.res.nd, E.res.na, E.res.av, fun b w y => E.res.wa b w (by
        rw [upd_ne (fun y => h3 (by rw [← y]; exact w))] at y
        exact y)⟩
    · obtain ⟨⟨l, t, g0, g1, g2⟩, ⟨ns, g3⟩, ⟨ms, g4⟩, g5⟩ := E.res.dr
      refine ⟨⟨l, t, g0, g1, fr _ _ (fun y => h4 (.inl y.symm)) g2⟩, ⟨ns, fr _ _ (fun y => h4 (.inr (.inl y.symm))) g3⟩, ⟨ms, fr _ _ (fun y => h4 (.inr (.inr (.inl y.symm)))) g4⟩, g5⟩
    · rw [← y]
      exact .inr (.inr (.inr (.inl (List.mem_of_getElem? e1))))
  · refine ⟨fun b o q z => ?_, fun b q => ?_, fun b xs q => tp b xs (E.bs.tp b xs q), E.bs.wk, E.bs.wn⟩
    · have y : b ≠ a := fun y => by rw [y, h5] at z; cases z
      exact fr b o y (E.bs.fr b o q z)
    · by_cases y : b = a
      · rw [y]; exact h5
      · rw [upd_ne y] at q
        exact E.bs.al b q
theorem Fre.filter {j : Nat} (hr : Rep O i) (h : Fre (O.filter (· ≠ i)) j) : Fre O j ∧ j ≠ i := by
  obtain ⟨h1, h2⟩ := h
  obtain ⟨h3, h4⟩ := List.mem_filter.mp h1
  exact ⟨⟨h3, fun z => h2 (List.mem_filter.mpr ⟨z, by have := hr.2.2; simp; omega⟩)⟩, by simpa using h4⟩
theorem Fre.toF {j : Nat} (h : Fre O j) (n : j ≠ i) : Fre (O.filter (· ≠ i)) j := ⟨List.mem_filter.mpr ⟨h.1, by simpa using n⟩, fun z => h.2 (List.mem_filter.mp z).1⟩
/-- a slot is forgotten -/
theorem Env.drop (E : Env K A W0 H0 O W σ H ρ r) (i : Nat) (o : Option V) (nr : Rep O i) : Env K A W0 H0 O W (σ.set i o) H (ρ.set i none) r where
  len := by rw [List.length_set, List.length_set]; exact E.len
  var := fun j e h1 h2 => by
    have q : i ≠ j := fun q => by
      subst q
      have hl : i < ρ.length := by
        have := (List.getElem?_eq_some_iff.mp h1).1
        rwa [List.length_set] at this
      rw [List.getElem?_set_self hl] at h1
      cases h1
    rw [List.getElem?_set_ne q] at h1 ⊢
    exact E.var j e h1 h2
  own := fun j e h1 h2 => by
    have q : i ≠ j := fun q => by
      subst q
      have hl : i < ρ.length := by
        have := (List.getElem?_eq_some_iff.mp h1).1
        rwa [List.length_set] at this
      rw [List.getElem?_set_self hl] at h1
      cases h1
    rw [List.getElem?_set_ne q] at h1 ⊢
    exact E.own j e h1 h2
  rdo := fun j e h1 h2 => by
    have q : i ≠ j := fun q => nr.1 (by rw [q]; exact h2)
    rw [List.getElem?_set_ne q] at h1 ⊢
    exact E.rdo j e h1 h2
  rin := E.rin
  bor := fun j b h => by
    obtain ⟨h1, h2, h3, h4, d, h5⟩ := E.bor j b h
    have q : i ≠ j := fun q => nr.2.1 (by rw [q]; exact h2)
    exact ⟨h1, h2, h3, by rw [List.getElem?_set_ne q]; exact h4, d, by rw [List.getElem?_set_ne q]; exact h5⟩
  dis := fun j k a e1 e2 h1 h2 h3 h4 h5 h6 h7 => by
    have g : ∀ {j : Nat} {e1 : D}, (ρ.set i none)[j]? = some (some e1) → i ≠ j ∧ ρ[j]? = some (some e1) := fun {j e1} y => by
      have q : i ≠ j := fun q => by
        subst q
        have hl : i < ρ.length := by
          have := (List.getElem?_eq_some_iff.mp y).1
          rwa [List.length_set] at this
        rw [List.getElem?_set_self hl] at y
        cases y
      rw [List.getElem?_set_ne q] at y
      exact ⟨q, y⟩
    obtain ⟨q1, h4⟩ := g h4
    obtain ⟨q2, h5⟩ := g h5
    rw [List.getElem?_set_ne q1] at h6
    rw [List.getElem?_set_ne q2] at h7
    exact E.dis j k a e1 e2 h1 h2 h3 h4 h5 h6 h7
  res := E.res
  bs := E.bs
end
end Sn
namespace Sn
open PySem PySem.Spec PyProof.Rows L2
theorem dr_new {H : Hp} {d g c p : Addr} {m : Nat} (D : Dr H d g c m) (h : H p = none) : p ≠ d ∧ p ≠ g ∧ p ≠ c := by
  obtain ⟨⟨l, t, _, _, hd⟩, ⟨gs, hg⟩, ⟨cs, hc⟩, _⟩ := D
  exact ⟨(ne_of_none hd h).symm, (ne_of_none hg h).symm, (ne_of_none hc h).symm⟩
theorem Dr.upd {H : Hp} {d g c L : Addr} {m : Nat} {o : HO} (D : Dr H d g c m) (h : L ≠ d ∧ L ≠ g ∧ L ≠ c) : Dr (L2.upd H L o) d g c m := by
  obtain ⟨⟨l, t, h0, h1, h2⟩, ⟨a, h3⟩, ⟨b, h4⟩, h5⟩ := D
  exact ⟨⟨l, t, h0, h1, by rw [upd_ne h.1.symm]; exact h2⟩, ⟨a, by rw [upd_ne h.2.1.symm]; exact h3⟩, ⟨b, by rw [upd_ne h.2.2.symm]; exact h4⟩, h5⟩
theorem Mv.put {d g L : Addr} {H H2 : Hp} {o : HO} (m : Mv d g H H2) (h : H L = none) : Mv d g H (L2.upd H2 L o) := fun b x h1 h2 e => by
  rw [upd_ne (ne_of_none e h)]
  exact m _ _ h1 h2 e
end Sn
namespace Sn
open PySem PySem.Spec PyProof.Rows L2
theorem same_at {H H2 : Hp} {L : Addr} {o : HO} (s : Same H H2) (h : H L = none) : Same H (upd H2 L o) := fun b x e => by
  rw [upd_ne (ne_of_none e h)]
  exact s _ _ e
section
variable {J : It} {n : Nat} {G : Hp → Prop} {Y : Nat → Hp → V → Hp → Prop}
/-- [e for x in xs] -/
theorem lc_out (w : Walk J n G Y) {g : TG} {te : TE} {vs : List Nat} {σ : L2.St} {H1 : Hp} {D : Addr} {Qd : Hp → Prop} (f : Nat → V) (hn : n ≤ 1000) (hD : H1 D = none) (hG : ∀ H, Same H1 H → G H)
    (hs : ∀ i x H H' (Qg : L2.St → Hp → Prop), i < n → Same H1 H → Y i H x H' → (∀ σ2 H2, Same H H2 → wipe σ2 vs = wipe σ vs → (∀ R : VK, (∀ H4, Same H2 H4 → R (f i) H4) → te σ2 H2 R) → Qg σ2 H2) → g x (wipe σ vs) H' Qg)
    (hd : ∀ H, Same H1 H → H D = some (.lst ((List.range n).map f)) → Qd H) :
    ∃ W : Nat → Nat → Hp → Prop, (∃ m, W 0 m (upd H1 D (.lst []))) ∧ ∀ i m H, W i m H →
      (J.stop i H ∧ Qd H) ∨ (J.go i H ∧ ∃ Nx : Hp → Prop, (∀ H', Nx H' → ∃ m', m' < m ∧ W (i + 1) m' H') ∧ ∀ x H', J.yld i H x H' → g x (wipe σ vs) H' fun σ2 H2 => wipe σ2 vs = wipe σ vs ∧ tYes σ2 H2 fun b H3 =>
        if b = true then te σ2 H3 fun y H4 => ∃ acc, H4 D = some (.lst acc) ∧ acc.length < sizeLine ∧ Nx (upd H4 D (.lst (acc ++ [y]))) else Nx H3) := by
  refine lc_it w (fun i H => Same H1 H ∧ H D = some (.lst ((List.range i).map f))) ⟨same_new hD, upd_same⟩ (fun i H _ q => hG H q.1) ?_ (fun H q => hd H q.1 q.2)
  rintro i x H H' hi ⟨s1, hl⟩ y
  refine hs i x H H' _ hi s1 y fun σ2 H2 s2 ew ht => ⟨ew, ?_⟩
  show te σ2 H2 fun y H4 => ∃ acc, H4 D = some (.lst acc) ∧ acc.length < sizeLine ∧ Same H1 (upd H4 D (.lst (acc ++ [y]))) ∧ (upd H4 D (.lst (acc ++ [y]))) D = some (.lst ((List.range (i + 1)).map f))
  refine ht _ fun H4 s4 => ?_
  refine ⟨_, s4 _ _ (s2 _ _ hl), small1000 (by rw [List.length_map, List.length_range]; omega), same_at ((s1.trans s2).trans s4) hD, ?_⟩
  rw [upd_same, List.range_succ, List.map_append]; rfl
end
theorem all_range {α : Type} (p : α → Bool) (z : α) : ∀ ds : List α, (List.range ds.length).all (fun i => p (ds.getD i z)) = ds.all p := by
  intro ds
  rw [Bool.eq_iff_iff, List.all_eq_true, List.all_eq_true]
  constructor
  · intro h x hx
    obtain ⟨i, hi, rfl⟩ := List.getElem_of_mem hx
    have := h i (List.mem_range.mpr hi)
    rwa [List.getD_eq_getElem?_getD, List.getElem?_eq_getElem hi] at this
  · intro h i hi
    have hi := List.mem_range.mp hi
    rw [List.getD_eq_getElem?_getD, List.getElem?_eq_getElem hi]
    exact h _ (List.getElem_mem hi)
theorem getD_of {α : Type} {ds : List α} {i : Nat} {d z : α} (h : ds[i]? = some d) : ds.getD i z = d := by
  rw [List.getD_eq_getElem?_getD, h]; rfl
end Sn
namespace Sn
open PySem PySem.Spec PyProof.Rows L2
/-- v is the data dd, whatever is drawn -/
def Sd (d g : Addr) (H : Hp) (v : V) (dd : PyData) : Prop := ∀ H', Mv d g H H' → Dh H' v dd
def SdA (d g : Addr) (H : Hp) (vs : List V) (ds : List PyData) : Prop := ∀ H', Mv d g H H' → DhAll H' vs ds
section
variable {d g c : Addr} {H H' : Hp} {m : Nat} {v : V} {vs : List V} {dd : PyData} {ds : List PyData} {K : PySem.W.Frag}
theorem Sd.mv (h : Sd d g H v dd) (m : Mv d g H H') : Sd d g H' v dd := fun H2 m2 => h H2 (m.trans m2)
theorem Sd.same (h : Sd d g H v dd) (s : Same H H') : Sd d g H' v dd := h.mv (Mv.same s)
theorem Sd.at (h : Sd d g H v dd) : Dh H v dd := h H (Mv.refl _ _ _)
theorem SdA.mv (h : SdA d g H vs ds) (m : Mv d g H H') : SdA d g H' vs ds := fun H2 m2 => h H2 (m.trans m2)
theorem SdA.same (h : SdA d g H vs ds) (s : Same H H') : SdA d g H' vs ds := h.mv (Mv.same s)
theorem SdA.at (h : SdA d g H vs ds) : DhAll H vs ds := h H (Mv.refl _ _ _)
theorem SdA.nil : SdA d g H [] [] := fun _ _ => .nil
theorem SdA.cons (h : Sd d g H v dd) (a : SdA d g H vs ds) : SdA d g H (v :: vs) (dd :: ds) := fun H' m => .cons (h H' m) (a H' m)
theorem Sd.non : Sd d g H .non .none := fun _ _ => .non
theorem Sd.bl (b : Bool) : Sd d g H (.bl b) (.bool b) := fun _ _ => .bl b
theorem Sd.int (i : Int) : Sd d g H (.int i) (.int i) := fun _ _ => .int i
theorem Sd.str (z : Str) : Sd d g H (.str z) (.str z) := fun _ _ => .str z
theorem Sd.tup {p : Addr} (D : Dr H d g c m) (hp : H p = none) (a : SdA d g H vs ds) : Sd d g (upd H p (.tup vs)) (.ref p) (.tuple ds) := fun H' mv => by
  have n := dr_new D hp
  exact .tup (mv _ _ n.1 n.2.1 upd_same) (a H' ((Mv.same (same_new hp)).trans mv))
theorem Sd.lst {p : Addr} (D : Dr H d g c m) (hp : H p = none) (a : SdA d g H vs ds) : Sd d g (upd H p (.lst vs)) (.ref p) (.list ds) := fun H' mv => by
  have n := dr_new D hp
  exact .lst (mv _ _ n.1 n.2.1 upd_same) (a H' ((Mv.same (same_new hp)).trans mv))
theorem SdA.len (a : SdA d g H vs ds) : vs.length = ds.length := a.at.len
theorem SdA.app {ws : List V} {es : List PyData} (a : SdA d g H vs ds) (b : SdA d g H ws es) : SdA d g H (vs ++ ws) (ds ++ es) := fun H' m => (a H' m).app (b H' m)
theorem SdA.take (a : SdA d g H vs ds) (n : Nat) : SdA d g H (vs.take n) (ds.take n) := fun H' m => (a H' m).take n
theorem SdA.drop (a : SdA d g H vs ds) (n : Nat) : SdA d g H (vs.drop n) (ds.drop n) := fun H' m => (a H' m).drop n
theorem SdA.get (a : SdA d g H vs ds) {i : Nat} (h : vs[i]? = some v) : ∃ dd, ds[i]? = some dd ∧ Sd d g H v dd := by
  obtain ⟨dd, e, q⟩ := a.at.get h
  refine ⟨dd, e, fun H' m => ?_⟩
  obtain ⟨d2, e2, q2⟩ := (a H' m).get h
  rw [e] at e2
  cases e2
  exact q2
/-- a cut of data -/
def cutD (ds : List PyData) (lo hi : Option Int) : List PyData := (ds.drop (HT.sIx ds.length 0 lo)).take (HT.sIx ds.length ds.length hi - HT.sIx ds.length 0 lo)
theorem SdA.cut (a : SdA d g H vs ds) (lo hi : Option Int) : SdA d g H (cutV vs lo hi) (cutD ds lo hi) := by
  unfold cutV cutD
  rw [a.len]
  exact (a.drop _).take _
end
section
variable {X : Cx}
def rNil (neg : Bool) (K : PySem.W.Frag) : R2 := fun x y H Q => ∃ a b xs, x = .ref a ∧ y = .ref b ∧ SqL K H a xs ∧ SqL K H b [] ∧ Q (.bl (if neg then !xs.isEmpty else xs.isEmpty)) H
theorem op_eqNilH {K : PySem.W.Frag} (hu : X.A.units + 64 < cLine) (hK : X.K = K := by rfl) : OpR X (compareOp .Eq) (rNil false K) := by
  subst hK
  intro pins s σ H x y v u Q I rx ry h
  obtain ⟨a, b, xs, rfl, rfl, ha, hb, q⟩ := h
  cases xs with
  | nil => exact op_eqD hu pins s σ H _ _ v u Q I rx ry ⟨_, _, .lst ha .nil, .lst hb .nil, rfl, rfl, q⟩
  | cons z r =>
    cases rx
    cases ry
    obtain ⟨its, rv, pl, _⟩ := I.list ha
    obtain ⟨jts, rw', pl', _⟩ := I.list hb
    have e1 := rv.length
    have e2 := rw'.length
    refine PySem.SeqAt.RcAt.lists_lengths pl.isList pl'.isList ?_ (by omega) _ _ _ _ ⟨.bl false, H, I, rfl, q⟩
    simp only [List.length_cons, List.length_nil] at e1 e2
    rw [List.size_toArray, List.size_toArray, ← e1, ← e2]
    simp
theorem op_neNilH {K : PySem.W.Frag} (hu : X.A.units + 64 < cLine) (hK : X.K = K := by rfl) : OpR X (compareOp .NotEq) (rNil true K) := by
  subst hK
  intro pins s σ H x y v u Q I rx ry h
  obtain ⟨a, b, xs, rfl, rfl, ha, hb, q⟩ := h
  cases xs with
  | nil => exact op_neD hu pins s σ H _ _ v u Q I rx ry ⟨_, _, .lst ha .nil, .lst hb .nil, rfl, rfl, q⟩
  | cons z r =>
    cases rx
    cases ry
    obtain ⟨its, rv, pl, _⟩ := I.list ha
    obtain ⟨jts, rw', pl', _⟩ := I.list hb
    have e1 := rv.length
    have e2 := rw'.length
    refine SeqAt.RcNeAt.lists_lengths pl.isList pl'.isList ?_ (by omega) _ _ _ _ ⟨.bl true, H, I, rfl, q⟩
    simp only [List.length_cons, List.length_nil] at e1 e2
    rw [List.size_toArray, List.size_toArray, ← e1, ← e2]
    simp
end
end Sn
namespace Sn
open PySem PySem.Spec PyProof.Rows L2
abbrev VT := En → Rs → (D → Rs → Prop) → Prop
abbrev VTT := En → Rs → (Bool → Rs → Prop) → Prop
abbrev VTA := En → Rs → (List D → Rs → Prop) → Prop
theorem PE.imp {X : Cx} {e : Expr} {t t' : TE} (h : PE X e t) (i : ∀ σ H Q, t' σ H Q → t σ H Q) : PE X e t' := ⟨fun pins s σ H Q I q => h.run pins s σ H Q I (i σ H Q q)⟩
theorem PT.imp {X : Cx} {e : Expr} {t t' : TT} (h : PT X e t) (i : ∀ σ H Q, t' σ H Q → t σ H Q) : PT X e t' := ⟨fun pins s σ H Q I q => h.run pins s σ H Q I (i σ H Q q)⟩
theorem PW.imp {X : Cx} {e : Expr} {t t' : TT} (h : PW X e t) (i : ∀ σ H Q, t' σ H Q → t σ H Q) : PW X e t' := ⟨fun wh pins s σ H Q I q => h.run wh pins s σ H Q I (i σ H Q q)⟩
theorem PA.imp {X : Cx} {e : List Expr} {t t' : TA} (h : PA X e t) (i : ∀ σ H Q, t' σ H Q → t σ H Q) : PA X e t' := ⟨fun pos pins s σ H Q I q => h.run pos pins s σ H Q I (i σ H Q q)⟩
theorem PS.imp {X : Cx} {e : Stmt} {t t' : TS} (h : PS X e t) (i : ∀ D σ H, t' D σ H → t D σ H) : PS X e t' := ⟨fun pins s σ H D I q => h.run pins s σ H D I (i D σ H q)⟩
theorem PSs.imp {X : Cx} {e : List Stmt} {t t' : TS} (h : PSs X e t) (i : ∀ D σ H, t' D σ H → t D σ H) : PSs X e t' := ⟨fun pins s σ H D I q => h.run pins s σ H D I (i D σ H q)⟩
theorem OpR.or {X : Cx} {f : Value → Value → Sem Value} {r r' : R2} (h : OpR X f r) (h' : OpR X f r') : OpR X f (fun x y H Q => r x y H Q ∨ r' x y H Q) := by
  intro pins s σ H x y v u Q I rx ry q
  rcases q with q | q
  · exact h pins s σ H x y v u Q I rx ry q
  · exact h' pins s σ H x y v u Q I rx ry q
theorem CallR.or {X : Cx} {f : Value} {r r' : List V → Hp → VK → Prop} (h : CallR X f r) (h' : CallR X f r') : CallR X f (fun x H Q => r x H Q ∨ r' x H Q) := by
  intro pins s σ H x v Q I rx q
  rcases q with q | q
  · exact h pins s σ H x v Q I rx q
  · exact h' pins s σ H x v Q I rx q
abbrev Mode := PySem.W.Frag → Amb → Hp → (Addr → Prop) → Hp → V → D → Prop
def isMut : D → Bool
  | .list _ => true
  | .dict _ => true
  | _ => false
def mF : Mode := fun K A _ W H v d => Dw K A W H v d
def mB : Mode := fun K A _ W H v d => Dw K A W H v d ∨ ∃ a, v = .ref a ∧ OwnL K A W H a d ∧ ¬ A.U a
def mL : Mode := fun K A Hs W H v d => (isMut d = true ∧ ∃ a, v = .ref a ∧ Own K A W H a d ∧ ¬ W a ∧ ¬ A.U a ∧ Hs a = none) ∨ (isMut d = false ∧ Dw K A W H v d)
section
variable {K : PySem.W.Frag} {A : Amb} {W0 W W' W2 : Addr → Prop} {H0 Hs H1 H H' H2 : Hp} {O : List Nat} {σ : L2.St} {ρ : En} {r r' : Rs} {v : V} {d : D} {i : Nat} {a : Addr}
theorem mF.st (h : mF K A Hs W H v d) (x : Ext K A W H W' H') (av : ∀ a, W a → ¬ A.U a) : mF K A Hs W' H' v d := Dw.ext h x av
theorem mB.st (h : mB K A Hs W H v d) (x : Ext K A W H W' H') (av : ∀ a, W a → ¬ A.U a) : mB K A Hs W' H' v d := by
  rcases h with h | ⟨a, e, h, u⟩
  · exact .inl (h.ext x av)
  · exact .inr ⟨a, e, h.ext x av fun o q => x.fr a o u q, u⟩
theorem mL.st (h : mL K A Hs W H v d) (x : Ext K A W H W' H') (av : ∀ a, W a → ¬ A.U a) : mL K A Hs W' H' v d := by
  rcases h with ⟨m, a, e, h, w, u, n⟩ | ⟨m, h⟩
  · refine .inl ⟨m, a, e, h.ext x av fun o q => x.fr a o u q, fun z => ?_, u, n⟩
    rcases x.wn a z with z | z
    · exact w z
    · exact h.isSome z
  · exact .inr ⟨m, h.ext x av⟩
theorem mL.bk (h : mL K A H1 W H v d) (b : ∀ a, H1 a = none → Hs a = none) : mL K A Hs W H v d := by
  rcases h with ⟨m, a, e, h, w, u, n⟩ | ⟨m, h⟩
  · exact .inl ⟨m, a, e, h, w, u, b a n⟩
  · exact .inr ⟨m, h⟩
/-- a mode that is kept and goes back to an earlier start -/
structure GoodM (M : Mode) : Prop where
  st : ∀ {K : PySem.W.Frag} {A : Amb} {W W' : Addr → Prop} {Hs H H' : Hp} {v : V} {d : D}, M K A Hs W H v d → Ext K A W H W' H' → (∀ a, W a → ¬ A.U a) → M K A Hs W' H' v d
  bk : ∀ {K : PySem.W.Frag} {A : Amb} {W : Addr → Prop} {Hs H1 H : Hp} {v : V} {d : D}, M K A H1 W H v d → (∀ a, H1 a = none → Hs a = none) → M K A Hs W H v d
theorem goodF : GoodM mF := ⟨mF.st, fun h _ => h⟩
theorem goodB : GoodM mB := ⟨mB.st, fun h _ => h⟩
theorem goodL : GoodM mL := ⟨mL.st, mL.bk⟩
/-- what must hold of the names' data so that the expression gives a value of such data -/
def liftM (K : PySem.W.Frag) (O : List Nat) (M : Mode) (vt : VT) : TE := fun σ H Q => ∃ (A : Amb) (W0 : Addr → Prop) (H0 : Hp) (W : Addr → Prop) (ρ : En) (r : Rs) (Q0 : D → Rs → Prop), Env K A W0 H0 O W σ H ρ r ∧ vt ρ r Q0 ∧
  ∀ d r', Q0 d r' → ∀ v H' W', Ext K A W H W' H' → Env K A W0 H0 O W' σ H' ρ r' → M K A H W' H' v d → Q v H'
def liftT (K : PySem.W.Frag) (O : List Nat) (vt : VTT) : TT := fun σ H Q => ∃ (A : Amb) (W0 : Addr → Prop) (H0 : Hp) (W : Addr → Prop) (ρ : En) (r : Rs) (Q0 : Bool → Rs → Prop), Env K A W0 H0 O W σ H ρ r ∧ vt ρ r Q0 ∧
  ∀ b r', Q0 b r' → ∀ H' W', Ext K A W H W' H' → Env K A W0 H0 O W' σ H' ρ r' → Q b H'
inductive AllM (M : Mode) (K : PySem.W.Frag) (A : Amb) (Hs : Hp) (W : Addr → Prop) (H : Hp) : List V → List D → Prop
  | nil : AllM M K A Hs W H [] []
  | cons {v : V} {vs : List V} {d : D} {ds : List D} : M K A Hs W H v d → AllM M K A Hs W H vs ds → AllM M K A Hs W H (v :: vs) (d :: ds)
theorem AllM.len {M : Mode} : ∀ {vs : List V} {ds : List D}, AllM M K A Hs W H vs ds → vs.length = ds.length
  | _, _, .nil => rfl
  | _, _, .cons _ a => by rw [List.length_cons, List.length_cons, a.len]
theorem AllM.bk {M : Mode} (g : GoodM M) (b : ∀ a, H1 a = none → Hs a = none) : ∀ {vs : List V} {ds : List D}, AllM M K A H1 W H vs ds → AllM M K A Hs W H vs ds
  | _, _, .nil => .nil
  | _, _, .cons h a => .cons (g.bk h b) (a.bk g b)
theorem AllM.dw : ∀ {vs : List V} {ds : List D}, AllM mF K A Hs W H vs ds → DwA K A W H vs ds
  | _, _, .nil => .nil
  | _, _, .cons h a => .cons h a.dw
def liftA (K : PySem.W.Frag) (O : List Nat) (M : Mode) (va : VTA) : TA := fun σ H Q => ∃ (A : Amb) (W0 : Addr → Prop) (H0 : Hp) (W : Addr → Prop) (ρ : En) (r : Rs) (Q0 : List D → Rs → Prop), Env K A W0 H0 O W σ H ρ r ∧ va ρ r Q0 ∧
  ∀ ds r', Q0 ds r' → ∀ vs H' W', Ext K A W H W' H' → Env K A W0 H0 O W' σ H' ρ r' → AllM M K A H W' H' vs ds → Q vs H'
theorem lift_LF {vt : VT} {Q : VK} (h : liftM K O mF vt σ H Q) : liftM K O mL vt σ H Q := by
  obtain ⟨A, W0, H0, W, ρ, r, Q0, E, q, k⟩ := h
  refine ⟨A, W0, H0, W, ρ, r, Q0, E, q, fun d r' q0 v H' W' x E' m => ?_⟩
  rcases m with ⟨m, a, rfl, h, w, u, n⟩ | ⟨m, h⟩
  · exact k d r' q0 _ H' (wPlus W' a) (x.plus n) (E'.plus u h.isSome (E.h0 n) (E.fresh n)) ((h.mov (fun _ e => .inl e) (fun _ _ _ e => e) (fun _ _ e => e) fun o q => q).dw (.inr rfl))
  · exact k d r' q0 v H' W' x E' h
theorem lift_FB {vt : VT} {Q : VK} (h : liftM K O mB vt σ H Q) : liftM K O mF vt σ H Q := by
  obtain ⟨A, W0, H0, W, ρ, r, Q0, E, q, k⟩ := h
  exact ⟨A, W0, H0, W, ρ, r, Q0, E, q, fun d r' q0 v H' W' x E' m => k d r' q0 v H' W' x E' (.inl m)⟩
end
def VE (X : Cx) (O : List Nat) (e : Expr) (vt : VT) : Prop := PE X e (liftM X.K O mF vt)
def VB (X : Cx) (O : List Nat) (e : Expr) (vt : VT) : Prop := PE X e (liftM X.K O mB vt)
def VL (X : Cx) (O : List Nat) (e : Expr) (vt : VT) : Prop := PE X e (liftM X.K O mL vt)
def VTs (X : Cx) (O : List Nat) (e : Expr) (vt : VTT) : Prop := PT X e (liftT X.K O vt)
def VW (X : Cx) (O : List Nat) (e : Expr) (vt : VTT) : Prop := PW X e (liftT X.K O vt)
def VA (X : Cx) (O : List Nat) (es : List Expr) (va : VTA) : Prop := PA X es (liftA X.K O mF va)
def VAB (X : Cx) (O : List Nat) (es : List Expr) (va : VTA) : Prop := PA X es (liftA X.K O mB va)
def vVar (i : Nat) : VT := fun ρ r Q => ∃ d, ρ[i]? = some (some d) ∧ Q d r
def vC (d : D) : VT := fun _ r Q => Q d r
def vOp (f : D → D → (D → Prop) → Prop) (va vb : VT) : VT := fun ρ r Q => va ρ r fun d r1 => vb ρ r1 fun e r2 => f d e fun z => Q z r2
def vUn (f : D → (D → Prop) → Prop) (va : VT) : VT := fun ρ r Q => va ρ r fun d r1 => f d fun z => Q z r1
def vNil : VTA := fun _ r Q => Q [] r
def vCons (va : VT) (vs : VTA) : VTA := fun ρ r Q => va ρ r fun d r1 => vs ρ r1 fun ds r2 => Q (d :: ds) r2
def vTup (va : VTA) : VT := fun ρ r Q => va ρ r fun ds r1 => ds.length ≤ sizeLine ∧ Q (.tuple ds) r1
def vLst (va : VTA) : VT := fun ρ r Q => va ρ r fun ds r1 => ds.length ≤ sizeLine ∧ Q (.list ds) r1
def vCB (f : List D → (D → Prop) → Prop) (va : VTA) : VT := fun ρ r Q => va ρ r fun ds r1 => f ds fun z => Q z r1
def vIf (c : VTT) (va vb : VT) : VT := fun ρ r Q => c ρ r fun b r1 => if b = true then va ρ r1 Q else vb ρ r1 Q
def vAndV (va vb : VT) : VT := fun ρ r Q => va ρ r fun x r1 => ∃ c, x = .bool c ∧ if c = true then vb ρ r1 Q else Q (.bool false) r1
def vOrV (va vb : VT) : VT := fun ρ r Q => va ρ r fun x r1 => ∃ c, x = .bool c ∧ if c = true then Q (.bool true) r1 else vb ρ r1 Q
def vNotV (va : VT) : VT := fun ρ r Q => va ρ r fun x r1 => ∃ c, x = .bool c ∧ Q (.bool (!c)) r1
def vB (va : VT) : VTT := fun ρ r Q => va ρ r fun x r1 => ∃ c, x = .bool c ∧ Q c r1
def vAnd (va vb : VTT) : VTT := fun ρ r Q => va ρ r fun c r1 => if c = true then vb ρ r1 Q else Q false r1
def vOr (va vb : VTT) : VTT := fun ρ r Q => va ρ r fun c r1 => if c = true then Q true r1 else vb ρ r1 Q
def vNot (va : VTT) : VTT := fun ρ r Q => va ρ r fun c r1 => Q (!c) r1
section
variable {X : Cx} {O : List Nat} {e a b c : Expr} {es : List Expr} {v1 v2 v3 : VT} {vs : VTA} {c1 c2 : VTT} {pos : Pos}
theorem VL.ve (h : VL X O e v1) : VE X O e v1 := PE.imp h fun _ _ _ q => lift_LF q
theorem VE.vb (h : VE X O e v1) : VB X O e v1 := PE.imp h fun _ _ _ q => lift_FB q
theorem VL.vb (h : VL X O e v1) : VB X O e v1 := h.ve.vb
theorem ve_var {i : Nat} (h : PE X e (tVar i)) (hi : i ∉ O := by decide) : VE X O e (vVar i) := PE.imp h fun σ H Q q => by
  obtain ⟨A, W0, H0, W, ρ, r, Q0, E, ⟨d, hd, q⟩, k⟩ := q
  obtain ⟨v, h1, h2⟩ := E.var i d hd hi
  exact ⟨v, h1, k d r q v H W .refl E h2⟩
theorem vb_var {i : Nat} (h : PE X e (tVar i)) : VB X O e (vVar i) := PE.imp h fun σ H Q q => by
  obtain ⟨A, W0, H0, W, ρ, r, Q0, E, ⟨d, hd, q⟩, k⟩ := q
  by_cases h0 : i + 2000 ∈ O
  · obtain ⟨v, h1, h2, _⟩ := E.rdo i d hd h0
    refine ⟨v, h1, k d r q v H W .refl E ?_⟩
    rcases h2 with h2 | ⟨a, e, h2, h3, _⟩
    · exact .inl h2
    · exact .inr ⟨a, e, h2, h3⟩
  by_cases hi : i ∈ O
  · obtain ⟨a, h1, h2, h3, h4, _⟩ := E.own i d hd ⟨hi, h0⟩
    exact ⟨_, h1, k d r q _ H W .refl E (.inr ⟨a, rfl, .own h2, h4⟩)⟩
  · obtain ⟨v, h1, h2⟩ := E.var i d hd hi
    exact ⟨v, h1, k d r q v H W .refl E (.inl h2)⟩
/-- a value that needs no heap -/
theorem ve_c {v : V} {d : D} (h : PE X e (tC v)) (hd : ∀ A W H, Dw X.K A W H v d) (m : isMut d = false) : VL X O e (vC d) := PE.imp h fun σ H Q q => by
  obtain ⟨A, W0, H0, W, ρ, r, Q0, E, q, k⟩ := q
  exact k d r q v H W .refl E (.inr ⟨m, hd _ _ _⟩)
theorem ve_int {i j pos} : VL X O (.Constant (.int i) j pos) (vC (.int i)) := ve_c pe_int (fun _ _ _ => .int i) rfl
theorem ve_bl {b j pos} : VL X O (.Constant (.bool b) j pos) (vC (.bool b)) := ve_c pe_bl (fun _ _ _ => .bl b) rfl
theorem ve_str {z j pos} : VL X O (.Constant (.str z) j pos) (vC (.str z)) := ve_c pe_str (fun _ _ _ => .str z) rfl
theorem vm_nil {M : Mode} : PA X [] (liftA X.K O M vNil) := PA.imp pa_nil fun σ H Q q => by
  obtain ⟨A, W0, H0, W, ρ, r, Q0, E, q, k⟩ := q
  exact k [] r q [] H W .refl E .nil
theorem vm_cons {M : Mode} (g : GoodM M) (h : PE X e (liftM X.K O M v1)) (hs : PA X es (liftA X.K O M vs)) (hst : starEach (e :: es) X.env = (false, eval e X.env) :: starEach es X.env) : PA X (e :: es) (liftA X.K O M (vCons v1 vs)) := PA.imp (pa_cons h hs hst) fun σ H Q q => by
  obtain ⟨A, W0, H0, W, ρ, r, Q0, E, q, k⟩ := q
  refine ⟨A, W0, H0, W, ρ, r, _, E, q, fun d r1 q1 v H1 W1 x1 E1 m1 => ?_⟩
  refine ⟨A, W0, H0, W1, ρ, r1, _, E1, q1, fun ds r2 q2 us H2 W2 x2 E2 m2 => ?_⟩
  exact k (d :: ds) r2 q2 (v :: us) H2 W2 (x1.trans x2) E2 (.cons (g.st m1 x2 E1.res.av) (m2.bk g x1.al))
theorem va_nil : VA X O [] vNil := vm_nil
theorem vab_nil : VAB X O [] vNil := vm_nil
theorem va_cons (h : VE X O e v1) (hs : VA X O es vs) (hst : starEach (e :: es) X.env = (false, eval e X.env) :: starEach es X.env := by rfl) : VA X O (e :: es) (vCons v1 vs) := vm_cons goodF h hs hst
theorem vab_cons (h : VB X O e v1) (hs : VAB X O es vs) (hst : starEach (e :: es) X.env = (false, eval e X.env) :: starEach es X.env := by rfl) : VAB X O (e :: es) (vCons v1 vs) := vm_cons goodB h hs hst
theorem ve_tup {x1} (hs : VA X O es vs) : VL X O (.Tuple es x1 pos) (vTup vs) := PE.imp (pe_tup hs) fun σ H Q q => by
  obtain ⟨A, W0, H0, W, ρ, r, Q0, E, q, k⟩ := q
  refine ⟨A, W0, H0, W, ρ, r, _, E, q, fun ds r1 q1 us H1 W1 x1 E1 m1 => ?_⟩
  refine ⟨by rw [m1.len]; exact q1.1, fun p hp => ?_⟩
  exact k _ r1 q1.2 _ _ W1 (x1.trans (Ext.new hp)) (E1.new hp) (.inr ⟨rfl, .tup (SqT.of upd_same) (m1.dw.ext (Ext.new hp) E1.res.av)⟩)
theorem ve_lst (hs : VA X O es vs) : VL X O (.List es pos) (vLst vs) := PE.imp (pe_lst hs) fun σ H Q q => by
  obtain ⟨A, W0, H0, W, ρ, r, Q0, E, q, k⟩ := q
  refine ⟨A, W0, H0, W, ρ, r, _, E, q, fun ds r1 q1 us H1 W1 x1 E1 m1 => ?_⟩
  refine ⟨by rw [m1.len]; exact q1.1, fun p hp => ?_⟩
  refine k _ r1 q1.2 _ _ W1 (x1.trans (Ext.new hp)) (E1.new hp) (.inl ⟨rfl, p, rfl, .lst upd_same (m1.dw.ext (Ext.new hp) E1.res.av), E1.nw hp, E1.res.uNew hp, x1.al p hp⟩)
end
section
variable {K : PySem.W.Frag} {A : Amb} {W : Addr → Prop} {Hs H : Hp} {v : V} {d : D}
theorem OwnL.cas {a : Addr} {P : Prop} (h : OwnL K A W H a d) (h1 : Own K A W H a d → P) (h2 : ∀ o xs ds, d = .dict ds → H a = some (.frz o (.dK xs)) → DwK K A W H xs ds → P) : P := by
  cases h with
  | own h => exact h1 h
  | lk h q => exact h2 _ _ _ rfl h q
theorem mB.int {i : Int} (h : mB K A Hs W H v (.int i)) : v = .int i := by
  rcases h with h | ⟨a, _, h, _⟩
  · cases h; rfl
  · exact h.cas (fun h => by cases h) fun _ _ _ e => by cases e
theorem mB.str {z : Str} (h : mB K A Hs W H v (.str z)) : v = .str z := by
  rcases h with h | ⟨a, _, h, _⟩
  · cases h; rfl
  · exact h.cas (fun h => by cases h) fun _ _ _ e => by cases e
theorem mB.bl {b : Bool} (h : mB K A Hs W H v (.bool b)) : v = .bl b := by
  rcases h with h | ⟨a, _, h, _⟩
  · cases h; rfl
  · exact h.cas (fun h => by cases h) fun _ _ _ e => by cases e
theorem mB.non (h : mB K A Hs W H v .none) : v = .non := by
  rcases h with h | ⟨a, _, h, _⟩
  · cases h; rfl
  · exact h.cas (fun h => by cases h) fun _ _ _ e => by cases e
theorem mB.lst {ds : List D} (h : mB K A Hs W H v (.list ds)) : ∃ a xs, v = .ref a ∧ H a = some (.lst xs) ∧ DwA K A W H xs ds := by
  rcases h with h | ⟨a, rfl, h, _⟩
  · cases h with
    | lst w h q => exact ⟨_, _, rfl, h, q⟩
  · refine h.cas (fun h => ?_) fun _ _ _ e => by cases e
    cases h with
    | lst h q => exact ⟨_, _, rfl, h, q⟩
theorem mB.tup {ds : List D} (h : mB K A Hs W H v (.tuple ds)) : ∃ a xs, v = .ref a ∧ SqT K H a xs ∧ DwA K A W H xs ds := by
  rcases h with h | ⟨a, _, h, _⟩
  · cases h with
    | tup h q => exact ⟨_, _, rfl, h, q⟩
  · exact h.cas (fun h => by cases h) fun _ _ _ e => by cases e
theorem mB.dic {ds : List (D × D)} (h : mB K A Hs W H v (.dict ds)) (n : isTok ds = false) : ∃ a xs, v = .ref a ∧ IsK H a xs ∧ DwK K A W H xs ds := by
  rcases h with h | ⟨a, rfl, h, _⟩
  · cases h with
    | dk w h q => exact ⟨_, _, rfl, h, q⟩
    | st => cases n
    | scr => cases n
    | cell => cases n
    | obj => cases n
    | ins => cases n
  · refine h.cas (fun h => ?_) fun _ _ _ e h q => ?_
    · cases h with
      | dk h q => exact ⟨_, _, rfl, .inl h, q⟩
      | ins => cases n
    · cases e
      exact ⟨_, _, rfl, .inr ⟨_, h⟩, q⟩
def flatD : D → Bool
  | .none => true
  | .bool _ => true
  | .int _ => true
  | .str _ => true
  | _ => false
mutual
theorem Dw.dp : ∀ {v : V} {d : D}, Dw K A W H v d → d.canLay0 = true → Dp K H v d
  | _, _, .non, _ => .non
  | _, _, .bl b, _ => .bl b
  | _, _, .int i, _ => .int i
  | _, _, .str x, _ => .str x
  | _, _, .lst w h a, e => .lst (.inl (.inl h)) (DwA.dp a (by simpa [PyData.canLay0] using e))
  | _, _, .tup h a, e => .tup h (DwA.dp a (by simpa [PyData.canLay0] using e))
  | _, _, .dk w h a, e => by simp [PyData.canLay0] at e
  | _, _, .st, e => by simp [dSt, PyData.canLay0] at e
  | _, _, .scr, e => by simp [dScr, PyData.canLay0] at e
  | _, _, .cell h, e => by simp [dCell, PyData.canLay0] at e
  | _, _, .obj a, e => by simp [dRef, PyData.canLay0] at e
  | _, _, .ins _ _ _ _ _, e => by simp [dIns, PyData.canLay0] at e
theorem DwA.dp : ∀ {vs : List V} {ds : List D}, DwA K A W H vs ds → PyData.canLayAll0 ds = true → DpAll K H vs ds
  | _, _, .nil, _ => .nil
  | _, _, .cons h a, e => .cons (Dw.dp h (by simp only [PyData.canLayAll0, Bool.and_eq_true] at e; exact e.1)) (DwA.dp a (by simp only [PyData.canLayAll0, Bool.and_eq_true] at e; exact e.2))
end
theorem mB.dp (h : mB K A Hs W H v d) (e : SeqAt.shaped d = true) : Dp K H v d := by
  have e : d.canLay0 = true := by simp only [SeqAt.shaped, Bool.and_eq_true] at e; exact e.1
  rcases h with h | ⟨a, rfl, h, _⟩
  · exact h.dp e
  · refine h.cas (fun g => ?_) fun _ _ _ z _ _ => by rw [z] at e; simp [PyData.canLay0] at e
    clear h
    cases g with
    | lst h q => exact .lst (.inl (.inl h)) (q.dp (by simpa [PyData.canLay0] using e))
    | dk h q => simp [PyData.canLay0] at e
    | ins _ _ _ _ => simp [dIns, PyData.canLay0] at e
end
def dI (C : Int → Int → Prop) (g : Int → Int → D) : D → D → (D → Prop) → Prop
  | .int i, .int j, Q => C i j ∧ Q (g i j)
  | _, _, _ => False
def dI0 (g : Int → Int → D) : D → D → (D → Prop) → Prop
  | .int i, .int j, Q => Q (g i j)
  | _, _, _ => False
def dAdd : D → D → (D → Prop) → Prop
  | .int i, .int j, Q => Q (.int (i + j))
  | .str x, .str y, Q => x.length + y.length ≤ sizeLine ∧ Q (.str (x ++ y))
  | .list x, .list y, Q => x.length + y.length ≤ sizeLine ∧ Q (.list (x ++ y))
  | .tuple x, .tuple y, Q => x.length + y.length ≤ sizeLine ∧ Q (.tuple (x ++ y))
  | _, _, _ => False
def scalD : D → D → Bool
  | .int _, .bool _ => false
  | .bool _, .int _ => false
  | d, e => flatD d && flatD e
def dEq (neg : Bool) (d e : D) (Q : D → Prop) : Prop := ((SeqAt.shaped d = true ∧ SeqAt.shaped e = true) ∨ scalD d e = true ∨ (∃ ds, d = .list ds ∧ e = .list [])) ∧ Q (.bool (if neg = true then !PyData.eqv d e else PyData.eqv d e))
theorem scal_of {K : PySem.W.Frag} {A : Amb} {W : Addr → Prop} {Hs Hs1 H : Hp} {x y : V} {d e : D} (h : mB K A Hs W H x d) (h' : mB K A Hs1 W H y e) (s : scalD d e = true) : scal x y = true ∧ decide (x = y) = PyData.eqv d e := by
  have g : ∀ {v : V} {d : D} {Hs : Hp}, mB K A Hs W H v d → flatD d = true → Dw K A W H v d := fun {v d Hs} h f => by
    rcases h with h | ⟨a, _, h, _⟩
    · exact h
    · exact h.cas (fun h => by cases h <;> cases f) fun _ _ _ e => by rw [e] at f; cases f
  have f : flatD d = true ∧ flatD e = true := by
    unfold scalD at s
    split at s
    · cases s
    · cases s
    · simpa using s
  have h := g h f.1
  have h' := g h' f.2
  obtain ⟨f1, f2⟩ := f
  cases h <;> first | (cases f1; done) | skip
  all_goals cases h' <;> first | (cases f2; done) | (cases s; done) | skip
  all_goals refine ⟨rfl, ?_⟩
  all_goals simp [PyData.eqv, Bool.beq_eq_decide_eq]
def dCmp (g : Int → Int → Bool) (s : Str → Str → Bool) : D → D → (D → Prop) → Prop
  | .int i, .int j, Q => Q (.bool (g i j))
  | .str x, .str y, Q => Q (.bool (s x y))
  | _, _, _ => False
def inD (d : D) (ds : List D) : Bool := ds.any fun z => PyData.eqv z d
def dIn (neg : Bool) (d : D) : D → (D → Prop) → Prop
  | .list ds, Q => ((flatD d = true ∧ ds.all flatD = true) ∨ (SeqAt.shaped d = true ∧ SeqAt.shaped (.list ds) = true)) ∧ Q (.bool (if neg = true then !inD d ds else inD d ds))
  | .tuple ds, Q => (flatD d = true ∧ ds.all flatD = true) ∧ Q (.bool (if neg = true then !inD d ds else inD d ds))
  | .str z, Q => ∃ y, d = .str y ∧ Q (.bool (if neg = true then !(!(Builtin.Str.occurrences z y 0 z.length 1).isEmpty) else !(Builtin.Str.occurrences z y 0 z.length 1).isEmpty))
  | _, _ => False
def isNoD : D → Bool
  | .none => true
  | _ => false
def dIsN (neg : Bool) (d e : D) (Q : D → Prop) : Prop := e = .none ∧ Q (.bool (if neg = true then !isNoD d else isNoD d))
def dIx : D → D → (D → Prop) → Prop
  | .list ds, .int i, Q => ∃ d, atI ds i = some d ∧ Q d
  | .tuple ds, .int i, Q => ∃ d, atI ds i = some d ∧ Q d
  | .str z, .int i, Q => z.length ≤ sizeLine ∧ ∃ c, atI z.cps.toList i = some c ∧ Q (.str ⟨#[c]⟩)
  | _, _, _ => False
/-- the operation by values is that by data -/
def OpSim (K : PySem.W.Frag) (M : Mode) (r : R2) (f : D → D → (D → Prop) → Prop) : Prop := ∀ (A : Amb) (W : Addr → Prop) (H : Hp) (rs : Rs) (x y : V) (d1 d2 : D) (Q0 : D → Prop) (Q : VK), Res K A W H rs → mB K A H W H x d1 → mB K A H W H y d2 → f d1 d2 Q0 →
  (∀ d, Q0 d → ∀ v H' W', Ext K A W H W' H' → Res K A W' H' rs → M K A H W' H' v d → Q v H') → r x y H Q
section
variable {X : Cx} {O : List Nat} {e a b c : Expr} {es : List Expr} {v1 v2 v3 : VT} {vs : VTA} {c1 c2 : VTT} {pos : Pos}
theorem sim_op {K : PySem.W.Frag} {M : Mode} {r : R2} {f : D → D → (D → Prop) → Prop} (g : GoodM M) (s : OpSim K M r f) {σ : L2.St} {H : Hp} {Q : VK} (q : liftM K O M (vOp f v1 v2) σ H Q) : tOp r (liftM K O mB v1) (liftM K O mB v2) σ H Q := by
  obtain ⟨A, W0, H0, W, ρ, rs, Q0, E, q, k⟩ := q
  refine ⟨A, W0, H0, W, ρ, rs, _, E, q, fun d r1 q1 v H1 W1 x1 E1 m1 => ?_⟩
  refine ⟨A, W0, H0, W1, ρ, r1, _, E1, q1, fun d' r2 q2 u H2 W2 x2 E2 m2 => ?_⟩
  refine s A W2 H2 r2 v u d d' _ Q E2.res (goodB.st m1 x2 E1.res.av) m2 q2 fun z hz w H3 W3 x3 R3 m3 => ?_
  exact k z r2 hz w H3 W3 ((x1.trans x2).trans x3) (E2.ext x3 R3) (g.bk m3 fun a h => x1.al a (x2.al a h))
theorem vl_op {op : Operator} {r : R2} {f : D → D → (D → Prop) → Prop} (ho : OpR X (binaryOp op) r) (s : OpSim X.K mL r f) (ha : VB X O a v1) (hb : VB X O b v2) : VL X O (.BinOp a op b pos) (vOp f v1 v2) := PE.imp (pe_op ho ha hb) fun _ _ _ q => sim_op goodL s q
/-- a comparison by data -/
def CmpOk (X : Cx) (op : CmpOp) (b : Expr) (f : D → D → (D → Prop) → Prop) : Prop := ∃ r, OpR X (compareOp op) r ∧ OpSim X.K mL r f ∧ behindInMarks op b = false
theorem ve_cmp {op : CmpOp} {f : D → D → (D → Prop) → Prop} (c : CmpOk X op b f) (ha : VB X O a v1) (hb : VB X O b v2) : VL X O (.Compare a [op] [b] pos) (vOp f v1 v2) := by
  obtain ⟨r, ho, s, hm⟩ := c
  exact PE.imp (pe_cmpR ho ha hb hm) fun _ _ _ q => sim_op goodL s q
theorem vt_cmp {op : CmpOp} {f : D → D → (D → Prop) → Prop} (c : CmpOk X op b f) (ha : VB X O a v1) (hb : VB X O b v2) : VTs X O (.Compare a [op] [b] pos) (vB (vOp f v1 v2)) := by
  obtain ⟨r, ho, s, hm⟩ := c
  refine PT.imp (pt_cmpR ho ha hb hm) fun σ H Q q => ?_
  obtain ⟨A, W0, H0, W, ρ, rs, Q0, E, q, k⟩ := q
  refine sim_op goodL s ⟨A, W0, H0, W, ρ, rs, _, E, q, fun d r1 q1 v H1 W1 x1 E1 m1 => ?_⟩
  obtain ⟨b, rfl, q1⟩ := q1
  rcases m1 with ⟨m, _⟩ | ⟨_, m⟩
  · cases m
  · cases m
    exact ⟨b, rfl, k b r1 q1 H1 W1 x1 E1⟩
/-- a plain result -/
theorem flat_go {K : PySem.W.Frag} {A : Amb} {W : Addr → Prop} {H : Hp} {rs : Rs} {Q0 : D → Prop} {Q : VK} {d : D} {v : V} (R : Res K A W H rs) (k : ∀ d, Q0 d → ∀ v H' W', Ext K A W H W' H' → Res K A W' H' rs → mL K A H W' H' v d → Q v H') (q : Q0 d) (m : isMut d = false) (h : Dw K A W H v d) : Q v H :=
  k d q v H W .refl R (.inr ⟨m, h⟩)
theorem new_go {K : PySem.W.Frag} {A : Amb} {W : Addr → Prop} {H : Hp} {rs : Rs} {Q0 : D → Prop} {Q : VK} {ds : List D} {xs : List V} {p : Addr} (R : Res K A W H rs) (k : ∀ d, Q0 d → ∀ v H' W', Ext K A W H W' H' → Res K A W' H' rs → mL K A H W' H' v d → Q v H') (q : Q0 (.list ds)) (h : DwA K A W H xs ds) (hp : H p = none) : Q (.ref p) (upd H p (.lst xs)) :=
  k _ q _ _ W (Ext.new hp) (R.same (same_new hp)) (.inl ⟨rfl, p, rfl, .lst upd_same (h.ext (Ext.new hp) R.av), fun w => R.wa p w hp, R.uNew hp, hp⟩)
theorem newT_go {K : PySem.W.Frag} {A : Amb} {W : Addr → Prop} {H : Hp} {rs : Rs} {Q0 : D → Prop} {Q : VK} {ds : List D} {xs : List V} {p : Addr} (R : Res K A W H rs) (k : ∀ d, Q0 d → ∀ v H' W', Ext K A W H W' H' → Res K A W' H' rs → mL K A H W' H' v d → Q v H') (q : Q0 (.tuple ds)) (h : DwA K A W H xs ds) (hp : H p = none) : Q (.ref p) (upd H p (.tup xs)) :=
  k _ q _ _ W (Ext.new hp) (R.same (same_new hp)) (.inr ⟨rfl, .tup (SqT.of upd_same) (h.ext (Ext.new hp) R.av)⟩)
theorem sim_I0 {K : PySem.W.Frag} {g : Int → Int → V} {g' : Int → Int → D} (h : ∀ i j A W H, isMut (g' i j) = false ∧ Dw K A W H (g i j) (g' i j)) : OpSim K mL (rI0 g) (dI0 g') := by
  intro A W H rs x y d1 d2 Q0 Q R m1 m2 q k
  cases d1 <;> cases d2 <;> first | exact absurd q id | skip
  exact ⟨_, _, m1.int, m2.int, flat_go R k q (h _ _ A W H).1 (h _ _ A W H).2⟩
theorem sim_I {K : PySem.W.Frag} {C : Int → Int → Prop} {g : Int → Int → V} {g' : Int → Int → D} (h : ∀ i j A W H, isMut (g' i j) = false ∧ Dw K A W H (g i j) (g' i j)) : OpSim K mL (rI C g) (dI C g') := by
  intro A W H rs x y d1 d2 Q0 Q R m1 m2 q k
  cases d1 <;> cases d2 <;> first | exact absurd q id | skip
  exact ⟨_, _, m1.int, m2.int, q.1, flat_go R k q.2 (h _ _ A W H).1 (h _ _ A W H).2⟩
theorem ve_add (ha : VB X O a v1) (hb : VB X O b v2) : VL X O (.BinOp a .Add b pos) (vOp dAdd v1 v2) := by
  refine vl_op (((op_add.or op_add_str).or op_cat).or op_catA) ?_ ha hb
  intro A W H rs x y d1 d2 Q0 Q R m1 m2 q k
  cases d1 <;> cases d2 <;> first | exact absurd q id | skip
  · exact .inl (.inl (.inl ⟨_, _, m1.int, m2.int, flat_go R k q rfl (.int _)⟩))
  · exact .inl (.inl (.inr ⟨_, _, m1.str, m2.str, q.1, flat_go R k q.2 rfl (.str _)⟩))
  · obtain ⟨a, xs, rfl, h1, q1⟩ := m1.lst
    obtain ⟨b, ys, rfl, h2, q2⟩ := m2.lst
    refine .inl (.inr ⟨a, b, xs, ys, rfl, rfl, h1, h2, by rw [q1.len, q2.len]; exact q.1, fun p hp => new_go R k q.2 (q1.app q2) hp⟩)
  · obtain ⟨a, xs, rfl, h1, q1⟩ := m1.tup
    obtain ⟨b, ys, rfl, h2, q2⟩ := m2.tup
    refine .inr ⟨a, b, xs, ys, rfl, rfl, h1, h2, by rw [q1.len, q2.len]; exact q.1, fun z => ?_, fun _ z => ?_, fun _ _ p hp => newT_go R k q.2 (q1.app q2) hp⟩
    · subst z
      cases q1
      exact flat_go R k q.2 rfl (.tup h2 q2)
    · subst z
      cases q2
      refine flat_go R k q.2 rfl (.tup h1 ?_)
      rw [List.append_nil]
      exact q1
theorem ve_sub (ha : VB X O a v1) (hb : VB X O b v2) : VL X O (.BinOp a .Sub b pos) (vOp (dI0 fun i j => .int (i - j)) v1 v2) := vl_op op_sub (sim_I0 fun _ _ _ _ _ => ⟨rfl, .int _⟩) ha hb
theorem ve_mod (ha : VB X O a v1) (hb : VB X O b v2) : VL X O (.BinOp a .Mod b pos) (vOp (dI (fun _ j => j ≠ 0) fun i j => .int (i.fmod j)) v1 v2) := vl_op op_modN (sim_I fun _ _ _ _ _ => ⟨rfl, .int _⟩) ha hb
theorem sim_eq {K : PySem.W.Frag} {neg : Bool} : OpSim K mL (fun x y H Q => ((∃ d e, Dp K H x d ∧ Dp K H y e ∧ SeqAt.shaped d = true ∧ SeqAt.shaped e = true ∧ Q (.bl (if neg = true then !PyData.eqv d e else PyData.eqv d e)) H) ∨ (scal x y = true ∧ Q (.bl (if neg = true then !decide (x = y) else decide (x = y))) H)) ∨ rNil neg K x y H Q) (dEq neg) := by
  intro A W H rs x y d1 d2 Q0 Q R m1 m2 q k
  obtain ⟨q1, q⟩ := q
  rcases q1 with ⟨s1, s2⟩ | s | ⟨ds, rfl, rfl⟩
  · exact .inl (.inl ⟨d1, d2, m1.dp s1, m2.dp s2, s1, s2, flat_go R k q rfl (.bl _)⟩)
  · obtain ⟨h1, h2⟩ := scal_of m1 m2 s
    exact .inl (.inr ⟨h1, by rw [h2]; exact flat_go R k q rfl (.bl _)⟩)
  · obtain ⟨a, xs, rfl, ha, hx⟩ := m1.lst
    obtain ⟨b, ys, rfl, hb, hy⟩ := m2.lst
    cases hy
    refine .inr ⟨a, b, xs, rfl, rfl, SqL.of ha, SqL.of hb, ?_⟩
    have e : PyData.eqv (.list ds) (.list []) = xs.isEmpty := by
      cases hx <;> simp [PyData.eqv, PyData.eqvAll]
    rw [← e]
    exact flat_go R k q rfl (.bl _)
theorem cp_eq (hu : X.A.units + 64 < cLine) (hm : behindInMarks .Eq b = false := by exact nomark _) : CmpOk X .Eq b (dEq false) := ⟨_, ((op_eqD hu).or op_eq).or (op_eqNilH hu), sim_eq (neg := false), hm⟩
theorem cp_ne (hu : X.A.units + 64 < cLine) (hm : behindInMarks .NotEq b = false := by exact nomark _) : CmpOk X .NotEq b (dEq true) := ⟨_, ((op_neD hu).or op_ne).or (op_neNilH hu), sim_eq (neg := true), hm⟩
theorem sim_cmp {K : PySem.W.Frag} {g : Int → Int → Bool} {s : Str → Str → Bool} : OpSim K mL (fun x y H Q => rI0 (fun i j => .bl (g i j)) x y H Q ∨ ∃ i j, x = .str i ∧ y = .str j ∧ Q (.bl (s i j)) H) (dCmp g s) := by
  intro A W H rs x y d1 d2 Q0 Q R m1 m2 q k
  cases d1 <;> cases d2 <;> first | exact absurd q id | skip
  · exact .inl ⟨_, _, m1.int, m2.int, flat_go R k q rfl (.bl _)⟩
  · exact .inr ⟨_, _, m1.str, m2.str, flat_go R k q rfl (.bl _)⟩
theorem cp_lt (hm : behindInMarks .Lt b = false := by exact nomark _) : CmpOk X .Lt b (dCmp (fun i j => decide (i < j)) fun i j => decide (i.cps.toList < j.cps.toList)) := ⟨_, op_lt.or op_lt_str, sim_cmp, hm⟩
theorem sim_cmpI {K : PySem.W.Frag} {g : Int → Int → Bool} : OpSim K mL (rI0 fun i j => .bl (g i j)) (dI0 fun i j => .bool (g i j)) := sim_I0 fun _ _ _ _ _ => ⟨rfl, .bl _⟩
theorem cp_le (hm : behindInMarks .LtE b = false := by exact nomark _) : CmpOk X .LtE b (dI0 fun i j => .bool (decide (i ≤ j))) := ⟨_, op_le, sim_cmpI, hm⟩
theorem cp_gt (hm : behindInMarks .Gt b = false := by exact nomark _) : CmpOk X .Gt b (dI0 fun i j => .bool (decide (j < i))) := ⟨_, op_gt, sim_cmpI, hm⟩
theorem ve_ix (ha : VB X O a v1) (hb : VB X O b v2) (hs : PlainIx b := by exact fun _ _ => rfl) : VE X O (.Subscript a b pos) (vOp dIx v1 v2) := PE.imp (pe_ix ix_seq ha hb hs) fun _ _ _ q => sim_op goodF (by
  intro A W H rs x y d1 d2 Q0 Q R m1 m2 q k
  have at_ : ∀ {xs : List V} {ds : List D} {i : Int} {d : D}, DwA X.K A W H xs ds → atI ds i = some d → ∃ v, atI xs i = some v ∧ Dw X.K A W H v d := by
    intro xs ds i d h e
    unfold atI at e ⊢
    rw [h.len]
    cases hn : ixN ds.length i with
    | none => rw [hn] at e; cases e
    | some j =>
      rw [hn] at e
      exact h.get e
  cases d1 <;> cases d2 <;> first | exact absurd q id | skip
  · obtain ⟨q1, c, e, q⟩ := q
    exact .inr (.inr ⟨_, _, c, m1.str, m2.int, q1, e, k _ q _ H W .refl R (.str _)⟩)
  · obtain ⟨a, xs, rfl, h1, q1⟩ := m1.lst
    obtain ⟨d, e, q⟩ := q
    obtain ⟨v, e2, hv⟩ := at_ q1 e
    exact .inl ⟨a, xs, _, v, rfl, m2.int, .inl (.inl h1), e2, k _ q _ H W .refl R hv⟩
  · obtain ⟨a, xs, rfl, h1, q1⟩ := m1.tup
    obtain ⟨d, e, q⟩ := q
    obtain ⟨v, e2, hv⟩ := at_ q1 e
    exact .inr (.inl ⟨a, xs, _, v, rfl, m2.int, h1, e2, k _ q _ H W .refl R hv⟩)) q
end
abbrev VTO := En → Rs → (Option Int → Rs → Prop) → Prop
def vNoPart : VTO := fun _ r Q => Q none r
def vPart (v : VT) : VTO := fun ρ r Q => v ρ r fun d r1 => ∃ i, d = .int i ∧ Q (some i) r1
def liftO (K : PySem.W.Frag) (O : List Nat) (vt : VTO) : TO := fun σ H Q => ∃ (A : Amb) (W0 : Addr → Prop) (H0 : Hp) (W : Addr → Prop) (ρ : En) (r : Rs) (Q0 : Option Int → Rs → Prop), Env K A W0 H0 O W σ H ρ r ∧ vt ρ r Q0 ∧
  ∀ b r', Q0 b r' → ∀ H' W', Ext K A W H W' H' → Env K A W0 H0 O W' σ H' ρ r' → Q b H'
theorem PO.imp {X : Cx} {e : Option Expr} {t t' : TO} (h : PO X e t) (i : ∀ σ H Q, t' σ H Q → t σ H Q) : PO X e t' := ⟨fun pins s σ H Q I q => h.run pins s σ H Q I (i σ H Q q)⟩
def VO (X : Cx) (O : List Nat) (e : Option Expr) (vt : VTO) : Prop := PO X e (liftO X.K O vt)
/-- a cut of data -/
def cutL (ds : List D) (lo hi : Option Int) : List D := (ds.drop (HT.sIx ds.length 0 lo)).take (HT.sIx ds.length ds.length hi - HT.sIx ds.length 0 lo)
def dSl : D → Option Int → Option Int → (D → Prop) → Prop
  | .list ds, lo, hi, Q => Q (.list (cutL ds lo hi))
  | .tuple ds, lo, hi, Q => Q (.tuple (cutL ds lo hi))
  | .str z, lo, hi, Q => z.length ≤ sizeLine ∧ Q (.str (cutS z lo hi))
  | _, _, _, _ => False
def vSl (v : VT) (lo hi : VTO) : VT := fun ρ r Q => v ρ r fun d r1 => lo ρ r1 fun l r2 => hi ρ r2 fun u r3 => dSl d l u fun z => Q z r3
section
variable {X : Cx} {O : List Nat} {e a b c : Expr} {es : List Expr} {v1 v2 v3 : VT} {vs : VTA} {c1 c2 : VTT} {pos : Pos}
theorem vo_none : VO X O none vNoPart := PO.imp po_none fun σ H Q q => by
  obtain ⟨A, W0, H0, W, ρ, r, Q0, E, q, k⟩ := q
  exact k _ r q H W .refl E
theorem vo_some (h : VB X O e v1) : VO X O (some e) (vPart v1) := PO.imp (po_some h) fun σ H Q q => by
  obtain ⟨A, W0, H0, W, ρ, r, Q0, E, q, k⟩ := q
  refine ⟨A, W0, H0, W, ρ, r, _, E, q, fun d r1 q1 v H1 W1 x1 E1 m1 => ?_⟩
  obtain ⟨i, rfl, q1⟩ := q1
  exact ⟨i, m1.int, k _ r1 q1 H1 W1 x1 E1⟩
theorem SlR.or {r r' : V → Option Int → Option Int → Hp → VK → Prop} (h : SlR X r) (h' : SlR X r') : SlR X (fun x lo hi H Q => r x lo hi H Q ∨ r' x lo hi H Q) := by
  intro pins s σ H x v vl vu lo hi sl Q I rx hs pl pu q
  rcases q with q | q
  · exact h pins s σ H x v vl vu lo hi sl Q I rx hs pl pu q
  · exact h' pins s σ H x v vl vu lo hi sl Q I rx hs pl pu q
theorem DwA.cutL {K : PySem.W.Frag} {A : Amb} {W : Addr → Prop} {H : Hp} {xs : List V} {ds : List D} (h : DwA K A W H xs ds) (lo hi : Option Int) : DwA K A W H (cutV xs lo hi) (Sn.cutL ds lo hi) := by
  unfold cutV Sn.cutL
  rw [h.len]
  exact (h.drop _).take _
theorem ve_slice {lo hi : Option Expr} {o1 o2 : VTO} {p2 : Pos} (h : VB X O e v1) (h1 : VO X O lo o1) (h2 : VO X O hi o2) : VL X O (.Subscript e (.Slice lo hi none p2) pos) (vSl v1 o1 o2) := PE.imp (pe_slice ((sl_list.or sl_tupA).or sl_str) h h1 h2) fun σ H Q q => by
  obtain ⟨A, W0, H0, W, ρ, rs, Q0, E, q, k⟩ := q
  refine ⟨A, W0, H0, W, ρ, rs, _, E, q, fun d r1 q1 v H1 W1 x1 E1 m1 => ?_⟩
  refine ⟨A, W0, H0, W1, ρ, r1, _, E1, q1, fun l r2 q2 H2 W2 x2 E2 => ?_⟩
  refine ⟨A, W0, H0, W2, ρ, r2, _, E2, q2, fun u r3 q3 H3 W3 x3 E3 => ?_⟩
  have m3 := goodB.st (goodB.st m1 x2 E1.res.av) x3 E2.res.av
  have x := (x1.trans x2).trans x3
  have k' : ∀ d, Q0 d r3 → ∀ v H' W', Ext X.K A W3 H3 W' H' → Res X.K A W' H' r3 → mL X.K A H3 W' H' v d → Q v H' := fun d q v H' W' x4 R m => k d r3 q v H' W' (x.trans x4) (E3.ext x4 R) (m.bk x.al)
  cases d <;> first | exact absurd q3 id | skip
  · exact .inr ⟨_, m3.str, q3.1, flat_go E3.res k' q3.2 rfl (.str _)⟩
  · obtain ⟨a, xs, rfl, g1, g2⟩ := m3.lst
    exact .inl (.inl ⟨a, xs, rfl, .inl (.inl g1), fun p hp => new_go E3.res k' q3 (g2.cutL l u) hp⟩)
  · obtain ⟨a, xs, rfl, g1, g2⟩ := m3.tup
    refine .inl (.inr ⟨a, xs, rfl, g1, fun w => ?_, fun _ p hp => newT_go E3.res k' q3 (g2.cutL l u) hp⟩)
    refine flat_go E3.res k' q3 rfl (.tup g1 ?_)
    unfold cutL
    rw [g2.len] at w
    rw [w.1, w.2, List.drop_zero, Nat.sub_zero, List.take_length]
    exact g2
theorem ve_one {op} (h : VE X O a v1) : VE X O (.BoolOp op [a] pos) v1 := pe_one h
theorem ve_and {rest : List Expr} (ha : VE X O a v1) (hb : VE X O (.BoolOp .And (b :: rest) pos) v2) : VE X O (.BoolOp .And (a :: b :: rest) pos) (vAndV v1 v2) := PE.imp (pe_and ha hb) fun σ H Q q => by
  obtain ⟨A, W0, H0, W, ρ, rs, Q0, E, q, k⟩ := q
  refine ⟨A, W0, H0, W, ρ, rs, _, E, q, fun d r1 q1 v H1 W1 x1 E1 m1 => ?_⟩
  obtain ⟨c, rfl, q1⟩ := q1
  refine ⟨c, mB.bl (Hs := H) (.inl m1), ?_⟩
  cases c with
  | true => exact iteT ⟨A, W0, H0, W1, ρ, r1, _, E1, q1, fun d r2 q2 v H2 W2 x2 E2 m2 => k d r2 q2 v H2 W2 (x1.trans x2) E2 m2⟩
  | false => exact iteF (k _ r1 q1 _ H1 W1 x1 E1 (.bl _))
theorem ve_not (ha : VE X O a v1) : VE X O (.UnaryOp .Not a pos) (vNotV v1) := PE.imp (pe_not ha) fun σ H Q q => by
  obtain ⟨A, W0, H0, W, ρ, rs, Q0, E, q, k⟩ := q
  refine ⟨A, W0, H0, W, ρ, rs, _, E, q, fun d r1 q1 v H1 W1 x1 E1 m1 => ?_⟩
  obtain ⟨c, rfl, q1⟩ := q1
  exact ⟨c, mB.bl (Hs := H) (.inl m1), k _ r1 q1 _ H1 W1 x1 E1 (.bl _)⟩
theorem vm_if {M : Mode} (g : GoodM M) (hc : VTs X O c c1) (ha : PE X a (liftM X.K O M v1)) (hb : PE X b (liftM X.K O M v2)) : PE X (.IfExp c a b pos) (liftM X.K O M (vIf c1 v1 v2)) := PE.imp (pe_ifExp hc ha hb) fun σ H Q q => by
  obtain ⟨A, W0, H0, W, ρ, rs, Q0, E, q, k⟩ := q
  refine ⟨A, W0, H0, W, ρ, rs, _, E, q, fun t r1 q1 H1 W1 x1 E1 => ?_⟩
  cases t with
  | true => exact iteT ⟨A, W0, H0, W1, ρ, r1, _, E1, q1, fun d r2 q2 v H2 W2 x2 E2 m2 => k d r2 q2 v H2 W2 (x1.trans x2) E2 (g.bk m2 x1.al)⟩
  | false => exact iteF ⟨A, W0, H0, W1, ρ, r1, _, E1, q1, fun d r2 q2 v H2 W2 x2 E2 m2 => k d r2 q2 v H2 W2 (x1.trans x2) E2 (g.bk m2 x1.al)⟩
theorem ve_if (hc : VTs X O c c1) (ha : VE X O a v1) (hb : VE X O b v2) : VE X O (.IfExp c a b pos) (vIf c1 v1 v2) := vm_if goodF hc ha hb
theorem vl_if (hc : VTs X O c c1) (ha : VL X O a v1) (hb : VL X O b v2) : VL X O (.IfExp c a b pos) (vIf c1 v1 v2) := vm_if goodL hc ha hb
theorem vt_val (h : VE X O e v1) (he : ∀ whole, isTrue e X.env whole = (do let v ← whole; standAt e.pos; holding [v] (truthy v)) := by intro _; rfl) : VTs X O e (vB v1) := PT.imp (pt_val h he) fun σ H Q q => by
  obtain ⟨A, W0, H0, W, ρ, rs, Q0, E, q, k⟩ := q
  refine ⟨A, W0, H0, W, ρ, rs, _, E, q, fun d r1 q1 v H1 W1 x1 E1 m1 => ?_⟩
  obtain ⟨c, rfl, q1⟩ := q1
  exact ⟨c, mB.bl (Hs := H) (.inl m1), k c r1 q1 H1 W1 x1 E1⟩
theorem vt_not (h : VTs X O a c1) : VTs X O (.UnaryOp .Not a pos) (vNot c1) := PT.imp (pt_not h) fun σ H Q q => by
  obtain ⟨A, W0, H0, W, ρ, rs, Q0, E, q, k⟩ := q
  exact ⟨A, W0, H0, W, ρ, rs, _, E, q, fun c r1 q1 H1 W1 x1 E1 => k _ r1 q1 H1 W1 x1 E1⟩
theorem vw_and1 (h : VTs X O a c1) : VW X O (.BoolOp .And [a] pos) c1 := pw_and1 h
theorem vw_or1 (h : VTs X O a c1) : VW X O (.BoolOp .Or [a] pos) c1 := pw_or1 h
theorem vw_and {rest : List Expr} (ha : VTs X O a c1) (hb : VW X O (.BoolOp .And (b :: rest) pos) c2) : VW X O (.BoolOp .And (a :: b :: rest) pos) (vAnd c1 c2) := PW.imp (pw_and ha hb) fun σ H Q q => by
  obtain ⟨A, W0, H0, W, ρ, rs, Q0, E, q, k⟩ := q
  refine ⟨A, W0, H0, W, ρ, rs, _, E, q, fun c r1 q1 H1 W1 x1 E1 => ?_⟩
  cases c with
  | true => exact iteT ⟨A, W0, H0, W1, ρ, r1, _, E1, q1, fun d r2 q2 H2 W2 x2 E2 => k d r2 q2 H2 W2 (x1.trans x2) E2⟩
  | false => exact iteF (k _ r1 q1 H1 W1 x1 E1)
theorem vw_or {rest : List Expr} (ha : VTs X O a c1) (hb : VW X O (.BoolOp .Or (b :: rest) pos) c2) : VW X O (.BoolOp .Or (a :: b :: rest) pos) (vOr c1 c2) := PW.imp (pw_or ha hb) fun σ H Q q => by
  obtain ⟨A, W0, H0, W, ρ, rs, Q0, E, q, k⟩ := q
  refine ⟨A, W0, H0, W, ρ, rs, _, E, q, fun c r1 q1 H1 W1 x1 E1 => ?_⟩
  cases c with
  | true => exact iteT (k _ r1 q1 H1 W1 x1 E1)
  | false => exact iteF ⟨A, W0, H0, W1, ρ, r1, _, E1, q1, fun d r2 q2 H2 W2 x2 E2 => k d r2 q2 H2 W2 (x1.trans x2) E2⟩
theorem VW.vt (h : VW X O e c1) : VTs X O e c1 := PW.pt h
end
end Sn
namespace Sn
open PySem PySem.Spec PyProof.Rows L2
/-- frozen things stay -/
structure StpV (K : PySem.W.Frag) (W : Addr → Prop) (H : Hp) (W' : Addr → Prop) (H' : Hp) : Prop where
  wl : ∀ a o, W a → H a = some o → H' a = some o
  tp : ∀ a xs, SqT K H a xs → SqT K H' a xs
  wk : ∀ a, W a → W' a
structure VN where
  nx : En → Rs → Prop
  rt : D → Rs → Prop
  bk : En → Rs → Prop := fun _ _ => False
  ct : En → Rs → Prop := fun _ _ => False
abbrev VTS := VN → En → Rs → Prop
section
variable {K : PySem.W.Frag} {A : Amb} {W0 W W' W2 : Addr → Prop} {H0 Hs H1 H H' H2 : Hp} {O O' B : List Nat} {σ σ' : L2.St} {ρ ρ' : En} {r r' : Rs} {v : V} {d : D} {i : Nat} {a : Addr}
theorem StpV.refl : StpV K W H W H := ⟨fun _ _ _ e => e, fun _ _ e => e, fun _ e => e⟩
theorem StpV.trans (x : StpV K W H W' H') (y : StpV K W' H' W2 H2) : StpV K W H W2 H2 := ⟨fun a o w e => y.wl a o (x.wk a w) (x.wl a o w e), fun a xs e => y.tp a xs (x.tp a xs e), fun a w => y.wk a (x.wk a w)⟩
theorem Ext.stp (x : Ext K A W H W' H') (av : ∀ a, W a → ¬ A.U a) : StpV K W H W' H' := ⟨fun a o w e => x.fr a o (av a w) e, x.tp, x.wk⟩
theorem Dw.stp (h : Dw K A W H v d) (x : StpV K W H W' H') : Dw K A W' H' v d := h.mov x.wk x.wl x.tp
theorem DwA.stp {vs : List V} {ds : List D} (h : DwA K A W H vs ds) (x : StpV K W H W' H') : DwA K A W' H' vs ds := DwA.mov x.wk x.wl x.tp h
/-- an owned thing is changed: frozen things stay -/
theorem Env.mutS {o' : HO} (E : Env K A W0 H0 O W σ H ρ r) (n : Fre O i) (e : ρ[i]? = some (some d)) (s : σ[i]? = some (some (.ref a))) : StpV K W H W (upd H a o') := by
  obtain ⟨b, h1, h2, h3, h4, h5⟩ := E.own i d e n
  rw [s] at h1
  cases h1
  obtain ⟨o, ho⟩ : ∃ o, H a = some o := by
    cases q : H a with
    | none => exact absurd q h2.isSome
    | some o => exact ⟨o, rfl⟩
  exact ⟨fun b o w e => by rw [upd_ne (fun y => h3 (by rw [← y]; exact w))]; exact e, fun b xs q => sqT_put ho (h2.noTup ho) q, fun _ e => e⟩
/-- what is wanted behind a statement: O owned at its start, O' behind it, B where a loop goes on or ends; results by the mode M -/
def liftS (K : PySem.W.Frag) (M : Mode) (B O O' : List Nat) (vs : VTS) : TS := fun D σ H => ∃ (A : Amb) (W0 : Addr → Prop) (H0 : Hp) (W : Addr → Prop) (ρ : En) (r : Rs) (N : VN), Env K A W0 H0 O W σ H ρ r ∧ vs N ρ r ∧
  (∀ ρ' r', N.nx ρ' r' → ∀ σ' H' W', Env K A W0 H0 O' W' σ' H' ρ' r' → StpV K W H W' H' → D.nx σ' H') ∧
  (∀ d r', N.rt d r' → ∀ v H' W', Ext K A W0 H0 W' H' → Res K A W' H' r' → M K A H0 W' H' v d → D.rt v H') ∧
  (∀ ρ' r', N.bk ρ' r' → ∀ σ' H' W', Env K A W0 H0 B W' σ' H' ρ' r' → StpV K W H W' H' → D.bk σ' H') ∧
  (∀ ρ' r', N.ct ρ' r' → ∀ σ' H' W', Env K A W0 H0 B W' σ' H' ρ' r' → StpV K W H W' H' → D.ct σ' H')
end
def VS (X : Cx) (M : Mode) (B O O' : List Nat) (st : Stmt) (vs : VTS) : Prop := PS X st (liftS X.K M B O O' vs)
def VSs (X : Cx) (M : Mode) (B O O' : List Nat) (st : List Stmt) (vs : VTS) : Prop := PSs X st (liftS X.K M B O O' vs)
def vNext : VTS := fun N ρ r => N.nx ρ r
def vSeq (s t : VTS) : VTS := fun N ρ r => s { N with nx := fun ρ' r' => t N ρ' r' } ρ r
def vSet (i : Nat) (v : VT) : VTS := fun N ρ r => v ρ r fun d r1 => N.nx (ρ.set i (some d)) r1
def vSetO (i : Nat) (v : VT) : VTS := fun N ρ r => v ρ r fun d r1 => isMut d = true ∧ N.nx (ρ.set i (some d)) r1
def vDrop (v : VT) : VTS := fun N ρ r => v ρ r fun _ r1 => N.nx ρ r1
def vRet (v : VT) : VTS := fun N ρ r => v ρ r fun d r1 => N.rt d r1
def vRetN : VTS := fun N _ r => N.rt .none r
def vIfS (c : VTT) (s t : VTS) : VTS := fun N ρ r => c ρ r fun b r1 => if b = true then s N ρ r1 else t N ρ r1
def vBreak : VTS := fun N ρ r => N.bk ρ r
def vCont : VTS := fun N ρ r => N.ct ρ r
def vAppend (i : Nat) (v : VT) : VTS := fun N ρ r => ∃ ds, ρ[i]? = some (some (.list ds)) ∧ v ρ r fun d r1 => ds.length < sizeLine ∧ N.nx (ρ.set i (some (.list (ds ++ [d])))) r1
def vExtend (i : Nat) (v : VT) : VTS := fun N ρ r => ∃ ds, ρ[i]? = some (some (.list ds)) ∧ v ρ r fun d r1 => ∃ es, d = .list es ∧ ds.length + es.length ≤ sizeLine ∧ N.nx (ρ.set i (some (.list (ds ++ es)))) r1
section
variable {X : Cx} {M : Mode} {B O O' O1 O2 : List Nat} {e a b c : Expr} {es : List Expr} {st : Stmt} {rest sts els : List Stmt} {s1 s2 : VTS} {v1 v2 v3 : VT} {vs : VTA} {c1 c2 : VTT} {pos pos' : Pos} {i j : Nat} {x y : Str}
theorem vss_nil : VSs X M B O O [] vNext := PSs.imp pss_nil fun D σ H q => by
  obtain ⟨A, W0, H0, W, ρ, r, N, E, q, kn, kr, kb, kc⟩ := q
  exact kn ρ r q σ H W E .refl
theorem vss_one (h : VS X M B O O' st s1) : VSs X M B O O' [st] s1 := pss_one h
theorem vss_cons (h : VS X M B O O1 st s1) (h2 : VSs X M B O1 O2 rest s2) : VSs X M B O O2 (st :: rest) (vSeq s1 s2) := PSs.imp (pss_cons h h2) fun D σ H q => by
  obtain ⟨A, W0, H0, W, ρ, r, N, E, q, kn, kr, kb, kc⟩ := q
  refine ⟨A, W0, H0, W, ρ, r, _, E, q, fun ρ' r' q' σ' H' W' E' x' => ?_, kr, kb, kc⟩
  exact ⟨A, W0, H0, W', ρ', r', N, E', q', fun ρ2 r2 q2 σ2 H2 W2 E2 x2 => kn ρ2 r2 q2 σ2 H2 W2 E2 (x'.trans x2), kr, fun ρ2 r2 q2 σ2 H2 W2 E2 x2 => kb ρ2 r2 q2 σ2 H2 W2 E2 (x'.trans x2), fun ρ2 r2 q2 σ2 H2 W2 E2 x2 => kc ρ2 r2 q2 σ2 H2 W2 E2 (x'.trans x2)⟩
/-- a name's thing freezes ahead of what follows -/
theorem Env.frz {K : PySem.W.Frag} {A : Amb} {W0 W : Addr → Prop} {H0 H : Hp} {σ : L2.St} {ρ : En} {r : Rs} (E : Env K A W0 H0 O W σ H ρ r) (i : Nat) (nr : Rep O i) : ∃ W', Env K A W0 H0 (O.filter (· ≠ i)) W' σ H ρ r ∧ StpV K W H W' H := by
  have rin : ∀ j, j + 2000 ∈ O.filter (· ≠ i) → j ∈ O.filter (· ≠ i) := fun j h => by
    have h := (List.mem_filter.mp h).1
    have q : j ≠ i := fun q => nr.1 (by rw [← q]; exact h)
    exact List.mem_filter.mpr ⟨E.rin j h, by simpa using q⟩
  have bor : ∀ (j : Nat) (a : Addr), (j, a) ∈ A.bo → Fre (O.filter (· ≠ i)) j ∧ j + 1000 ∈ O.filter (· ≠ i) ∧ j < 1000 ∧ σ[j]? = some (some (.ref a)) ∧ ∃ d, ρ[j]? = some (some d) := fun j b h => by
    obtain ⟨h1, h2, h3, h4, h5⟩ := E.bor j b h
    have q : j ≠ i := fun q => nr.2.1 (by rw [← q]; exact h2)
    exact ⟨h1.toF q, List.mem_filter.mpr ⟨h2, by have := nr.2.2; simp; omega⟩, h3, h4, h5⟩
  by_cases hd : i ∈ O ∧ ∃ d, ρ[i]? = some (some d)
  · obtain ⟨n, d, e⟩ := hd
    have nf : Fre O i := ⟨n, nr.1⟩
    obtain ⟨a, h1, h2, h3, h4, h5⟩ := E.own i d e nf
    have mv : ∀ {b : Addr} {dd : D}, Own K A W H b dd → Own K A (wPlus W a) H b dd := fun q => q.mov (fun _ e => .inl e) (fun _ _ _ e => e) (fun _ _ e => e) fun o q => q
    refine ⟨wPlus W a, { len := E.len, var := fun j e1 q1 q2 => ?_, own := fun j e1 q1 q2 => ?_, rdo := fun j e1 q1 q2 => ?_, rin := rin, bor := bor, dis := fun j k b e1 e2 q1 q2 q3 q4 q5 q6 q7 => ?_, res := E.res.plus h4 h2.isSome, bs := E.bs.plus h5 }, fun _ _ _ e => e, fun _ _ e => e, fun _ e => .inl e⟩
    · by_cases q : j = i
      · subst q
        rw [e] at q1
        cases q1
        exact ⟨_, h1, (mv h2).dw (.inr rfl)⟩
      · obtain ⟨v, z1, z2⟩ := E.var j e1 q1 fun z => q2 (List.mem_filter.mpr ⟨z, by simpa using q⟩)
        exact ⟨v, z1, z2.mov (fun _ e => .inl e) (fun _ _ _ e => e) fun _ _ e => e⟩
    · obtain ⟨q3, q4⟩ := q2.filter nr
      obtain ⟨b, z1, z2, z3, z4, z5⟩ := E.own j e1 q1 q3
      refine ⟨b, z1, mv z2, fun y => ?_, z4, z5⟩
      rcases y with y | y
      · exact z3 y
      · subst y
        exact E.dis j i b _ _ q3 nf q4 q1 e z1 h1
    · obtain ⟨v, z1, z2, hk⟩ := E.rdo j e1 q1 (List.mem_filter.mp q2).1
      refine ⟨v, z1, ?_, hk⟩
      rcases z2 with z2 | ⟨b, z2, z3, z4, z5⟩
      · exact .inl (z2.mov (fun _ e => .inl e) (fun _ _ _ e => e) fun _ _ e => e)
      · exact .inr ⟨b, z2, z3.mov (fun _ e => .inl e) (fun _ _ _ e => e) (fun _ _ e => e) fun o q => q, z4, z5⟩
    · exact E.dis j k b e1 e2 (q1.filter nr).1 (q2.filter nr).1 q3 q4 q5 q6 q7
  · refine ⟨W, { len := E.len, var := fun j e1 q1 q2 => E.var j e1 q1 fun z => ?_, own := fun j e1 q1 q2 => E.own j e1 q1 (q2.filter nr).1, rdo := fun j e1 q1 q2 => E.rdo j e1 q1 (List.mem_filter.mp q2).1, rin := rin, bor := bor, dis := fun j k b e1 e2 q1 q2 => E.dis j k b e1 e2 (q1.filter nr).1 (q2.filter nr).1, res := E.res, bs := E.bs }, .refl⟩
    by_cases q : j = i
    · subst q
      exact hd ⟨z, e1, q1⟩
    · exact q2 (List.mem_filter.mpr ⟨z, by simpa using q⟩)
theorem vs_frz (i : Nat) (h : VS X M B O1 O' st s1) (e : O.filter (· ≠ i) = O1 := by rfl) (nr : Rep O i := by decide) : VS X M B O O' st s1 := PS.imp h fun D σ H q => by
  subst e
  obtain ⟨A, W0, H0, W, ρ, r, N, E, q, kn, kr, kb, kc⟩ := q
  obtain ⟨W1, E1, x1⟩ := E.frz i nr
  exact ⟨A, W0, H0, W1, ρ, r, N, E1, q, fun ρ' r' q' σ' H' W' E' x' => kn ρ' r' q' σ' H' W' E' (x1.trans x'), kr, fun ρ' r' q' σ' H' W' E' x' => kb ρ' r' q' σ' H' W' E' (x1.trans x'), fun ρ' r' q' σ' H' W' E' x' => kc ρ' r' q' σ' H' W' E' (x1.trans x')⟩
theorem ps_asg_core {D : Ends} {σ : L2.St} {H : Hp} (he : VE X O e v1) (n : i ∉ O) (q : liftS X.K M B O O (vSet i v1) D σ H) : tAsg (liftM X.K O mF v1) (gName i) D σ H := by
  obtain ⟨A, W0, H0, W, ρ, r, N, E, q, kn, kr, kb, kc⟩ := q
  exact ⟨A, W0, H0, W, ρ, r, _, E, q, fun d r1 q1 v H1 W1 x1 E1 m1 => kn _ r1 q1 _ H1 W1 (E1.set n m1) (x1.stp E.res.av)⟩
theorem vs_set (hN : X.N.Nodup) (hi : X.N[i]? = some x) (hx : Loc X.env.scope x) (he : VE X O e v1) (n : i ∉ O := by decide) (hs : swapsWith e (some (.Name x pos')) pos.line X.env = pure false := by rfl) (hf : X.fn x = true ∨ X.env.scope.names.lookup x = some .local := by first | exact .inl rfl | exact .inr rfl | assumption) :
    VS X M B O O (.Assign [.Name x pos'] e pos) (vSet i v1) := PS.imp (ps_set hN hi hx he hs hf) fun D σ H q => ps_asg_core he n q
/-- a slot without a value is owned from now on -/
theorem Env.addO {K : PySem.W.Frag} {A : Amb} {W0 W : Addr → Prop} {H0 H : Hp} {σ : L2.St} {ρ : En} {r : Rs} (E3 : Env K A W0 H0 O W (σ.set i none) H (ρ.set i none) r) (n : i ∈ O') (nr : Rep O' i) (h1 : ∀ j, j ∈ O' ↔ j = i ∨ j ∈ O) : Env K A W0 H0 O' W (σ.set i none) H (ρ.set i none) r := by
  have g : ∀ {j : Nat} {e1 : Sn.D}, (ρ.set i none)[j]? = some (some e1) → j ≠ i := fun {j e1} y q => by
    subst q
    have hl : j < ρ.length := by
      have := (List.getElem?_eq_some_iff.mp y).1
      rwa [List.length_set] at this
    rw [List.getElem?_set_self hl] at y
    cases y
  have f : ∀ {j}, j ≠ i → Fre O' j → Fre O j := fun {j} q z => ⟨((h1 j).mp z.1).resolve_left q, fun y => z.2 ((h1 _).mpr (.inr y))⟩
  have big : ∀ j k, 1000 ≤ k → j + k ∈ O' → j + k ∈ O := fun j k hk z => ((h1 _).mp z).resolve_left (by have := nr.2.2; omega)
  refine { len := E3.len, var := fun j d e z => E3.var j d e fun y => z ((h1 j).mpr (.inr y)), own := fun j d e z => E3.own j d e (f (g e) z), rdo := fun j d e z => E3.rdo j d e (big _ _ (by omega) z), rin := fun j z => ?_, bor := fun j a z => ?_, dis := fun j k b d e z1 z2 z3 z4 z5 => E3.dis j k b d e (f (g z4) z1) (f (g z5) z2) z3 z4 z5, res := E3.res, bs := E3.bs }
  · exact (h1 j).mpr (.inr (E3.rin j (big _ _ (by omega) z)))
  · obtain ⟨y1, y2, y3, y4, d, y5⟩ := E3.bor j a z
    exact ⟨⟨(h1 j).mpr (.inr y1.1), fun y => y1.2 (big _ _ (by omega) y)⟩, (h1 _).mpr (.inr y2), y3, y4, d, y5⟩
/-- x = a new list or dict; x is owned from now on -/
theorem asgO_core {D : Ends} {σ : L2.St} {H : Hp} (n : i ∈ O') (nr : Rep O' i) (h1 : ∀ j, j ∈ O' ↔ j = i ∨ j ∈ O) (q : liftS X.K M B O O' (vSetO i v1) D σ H) : tAsg (liftM X.K O mL v1) (gName i) D σ H := by
  obtain ⟨A, W0, H0, W, ρ, r, N, E, q, kn, kr, kb, kc⟩ := q
  refine ⟨A, W0, H0, W, ρ, r, _, E, q, fun d r1 q1 v H1 W1 x1 E1 m1 => ?_⟩
  rcases m1 with ⟨m, a, rfl, h, w, u, nn⟩ | ⟨m, _⟩
  · refine kn _ r1 q1.2 _ H1 W1 ?_ (x1.stp E.res.av)
    have nrO : Rep O i := ⟨fun z => nr.1 ((h1 _).mpr (.inr z)), fun z => nr.2.1 ((h1 _).mpr (.inr z)), nr.2.2⟩
    have E2 := (E1.drop i none nrO).addO n nr h1
    have E4 := E2.setO (i := i) (a := a) (d := d) n nr h w u (E.h0 nn) (fun j e z1 z2 z3 => by
      have jl : j ≠ i := fun y => by
        subst y
        have hl : j < ρ.length := by
          have := (List.getElem?_eq_some_iff.mp z1).1
          rwa [List.length_set] at this
        rw [List.getElem?_set_self hl] at z1
        cases z1
      rw [List.getElem?_set_ne (Ne.symm jl)] at z1 z3
      exact E.fresh nn j e z1 ⟨((h1 j).mp z2.1).resolve_left jl, fun y => z2.2 ((h1 _).mpr (.inr y))⟩ z3)
    rw [List.set_set, List.set_set] at E4
    exact E4
  · rw [q1.1] at m
    cases m
theorem vs_setO (hN : X.N.Nodup) (hi : X.N[i]? = some x) (hx : Loc X.env.scope x) (he : VL X O e v1) (n : Fre O i := by decide) (nr : Rep O i := by decide) (hs : swapsWith e (some (.Name x pos')) pos.line X.env = pure false := by rfl) (hf : X.fn x = true ∨ X.env.scope.names.lookup x = some .local := by first | exact .inl rfl | exact .inr rfl | assumption) :
    VS X M B O O (.Assign [.Name x pos'] e pos) (vSetO i v1) := PS.imp (ps_set hN hi hx he hs hf) fun D σ H q => asgO_core n.1 nr (fun j => ⟨.inr, fun z => z.elim (fun y => by rw [y]; exact n.1) id⟩) q
theorem vs_setN (hN : X.N.Nodup) (hi : X.N[i]? = some x) (hx : Loc X.env.scope x) (he : VL X O e v1) (nr : Rep (i :: O) i := by decide) (hs : swapsWith e (some (.Name x pos')) pos.line X.env = pure false := by rfl) (hf : X.fn x = true ∨ X.env.scope.names.lookup x = some .local := by first | exact .inl rfl | exact .inr rfl | assumption) :
    VS X M B O (i :: O) (.Assign [.Name x pos'] e pos) (vSetO i v1) := PS.imp (ps_set hN hi hx he hs hf) fun D σ H q => asgO_core (List.mem_cons_self ..) nr (fun j => List.mem_cons) q
theorem vs_retM (g : GoodM M) (he : PE X e (liftM X.K O M v1)) : VS X M B O O' (.Return (some e) pos) (vRet v1) := PS.imp (ps_ret he) fun D σ H q => by
  obtain ⟨A, W0, H0, W, ρ, r, N, E, q, kn, kr, kb, kc⟩ := q
  exact ⟨A, W0, H0, W, ρ, r, _, E, q, fun d r1 q1 v H1 W1 x1 E1 m1 => kr d r1 q1 v H1 W1 E1.bs E1.res (g.bk m1 E.bs.al)⟩
theorem vs_ret (he : VE X O e v1) : VS X mF B O O' (.Return (some e) pos) (vRet v1) := vs_retM goodF he
theorem vs_retVF (h : PE X e (tVar i)) (n : Fre O i := by decide) (nr : Rep O i := by decide) : VS X mF B O O' (.Return (some e) pos) (vRet (vVar i)) := PS.imp (ps_ret h) fun D σ H q => by
  obtain ⟨A, W0, H0, W, ρ, r, N, E, ⟨d, hd, q⟩, kn, kr, kb, kc⟩ := q
  obtain ⟨W1, E1, x1⟩ := E.frz i nr
  obtain ⟨v, h1, h2⟩ := E1.var i d hd (by simp)
  exact ⟨_, h1, kr d r q _ H W1 E1.bs E1.res h2⟩
theorem vs_if (hc : VTs X O c c1) (ha : VSs X M B O O' sts s1) (hb : VSs X M B O O' els s2) : VS X M B O O' (.If c sts els pos) (vIfS c1 s1 s2) := PS.imp (ps_if hc ha hb) fun D σ H q => by
  obtain ⟨A, W0, H0, W, ρ, r, N, E, q, kn, kr, kb, kc⟩ := q
  refine ⟨A, W0, H0, W, ρ, r, _, E, q, fun t r1 q1 H1 W1 x1 E1 => ?_⟩
  have xs := x1.stp E.res.av
  cases t with
  | true => exact iteT ⟨A, W0, H0, W1, ρ, r1, N, E1, q1, fun ρ' r' q' σ' H' W' E' x' => kn ρ' r' q' σ' H' W' E' (xs.trans x'), kr, fun ρ' r' q' σ' H' W' E' x' => kb ρ' r' q' σ' H' W' E' (xs.trans x'), fun ρ' r' q' σ' H' W' E' x' => kc ρ' r' q' σ' H' W' E' (xs.trans x')⟩
  | false => exact iteF ⟨A, W0, H0, W1, ρ, r1, N, E1, q1, fun ρ' r' q' σ' H' W' E' x' => kn ρ' r' q' σ' H' W' E' (xs.trans x'), kr, fun ρ' r' q' σ' H' W' E' x' => kb ρ' r' q' σ' H' W' E' (xs.trans x'), fun ρ' r' q' σ' H' W' E' x' => kc ρ' r' q' σ' H' W' E' (xs.trans x')⟩
/-- x.append(e), x owned -/
theorem vs_append (h : PE X e (tBM X.K "list" rAppend (tVar i) (tCons (liftM X.K O mF v1) tNil))) (n : Fre O i := by decide) (hs : swapsWith e none pos.line X.env = pure false := by rfl) : VS X M B O O (.Expr e pos) (vAppend i v1) := PS.imp (ps_expr h hs) fun D σ H q => by
  obtain ⟨A, W0, H0, W, ρ, r, N, E, ⟨ds, hd, q⟩, kn, kr, kb, kc⟩ := q
  obtain ⟨a, h1, h2, h3, h4, h5⟩ := E.own i _ hd n
  have ha : ∃ xs, H a = some (.lst xs) := by cases h2 with | lst h _ => exact ⟨_, h⟩
  obtain ⟨xs0, ha⟩ := ha
  refine ⟨_, h1, .inl ⟨rfl, _, SqL.of ha⟩, A, W0, H0, W, ρ, r, _, E, q, fun d r1 q1 v H1 W1 x1 E1 m1 => ?_⟩
  obtain ⟨b, g1, g2, _⟩ := E1.own i _ hd n
  rw [h1] at g1
  cases g1
  cases g2 with
  | lst g g' =>
    rename_i xs
    refine ⟨a, xs, v, rfl, rfl, g, by rw [g'.len]; exact q1.1, ?_⟩
    have st := E1.mutS (o' := .lst (xs ++ [v])) n hd h1
    refine kn _ r1 q1.2 σ _ W1 (E1.mut n hd h1 fun _ => ?_) ((x1.stp E.res.av).trans st)
    exact .lst upd_same ((g'.app (.cons m1 .nil)).stp st)
end
/-- a name, or names in brackets -/
inductive Tgt where
  | nm (i : Nat)
  | tp (is : List Nat)
def gNames : List Nat → TGs
  | [] => gNil
  | i :: is => gCons (gName i) (gNames is)
def gOf (K : PySem.W.Frag) : Tgt → TG
  | .nm i => gName i
  | .tp is => gTup K is.length (gNames is)
def setAll (ρ : En) : List Nat → List D → En
  | i :: is, d :: ds => setAll (ρ.set i (some d)) is ds
  | _, _ => ρ
def vBind : Tgt → D → En → (En → Prop) → Prop
  | .nm i, d, ρ, Q => Q (ρ.set i (some d))
  | .tp is, d, ρ, Q => ∃ ds, d = .tuple ds ∧ ds.length = is.length ∧ Q (setAll ρ is ds)
def Tgt.ok (O : List Nat) : Tgt → Prop
  | .nm i => i ∉ O
  | .tp is => ∀ i ∈ is, i ∉ O
instance (O : List Nat) (t : Tgt) : Decidable (t.ok O) := by
  cases t <;> unfold Tgt.ok <;> infer_instance
section
variable {K : PySem.W.Frag} {A : Amb} {W0 W : Addr → Prop} {H0 H : Hp} {O : List Nat} {σ : L2.St} {ρ : En} {r : Rs} {v : V} {d : D}
theorem bind_names : ∀ {is : List Nat} {xs : List V} {ds : List D} {σ : L2.St} {ρ : En} {Q : L2.St → Hp → Prop}, Env K A W0 H0 O W σ H ρ r → (∀ i ∈ is, i ∉ O) → DwA K A W H xs ds → ds.length = is.length → (∀ σ', Env K A W0 H0 O W σ' H (setAll ρ is ds) r → Q σ' H) → gNames is xs σ H Q
  | [], xs, ds, σ, ρ, Q, E, hO, h, hl, k => by
    cases h with
    | nil => exact ⟨rfl, k σ E⟩
    | cons _ _ => simp at hl
  | i :: is, xs, ds, σ, ρ, Q, E, hO, h, hl, k => by
    cases h with
    | nil => simp at hl
    | cons h1 h2 =>
      refine ⟨_, _, rfl, ?_⟩
      exact bind_names (E.set (hO i (List.mem_cons_self ..)) h1) (fun j hj => hO j (List.mem_cons_of_mem _ hj)) h2 (by simpa using hl) k
theorem bind_go {t : Tgt} {Q0 : En → Prop} {Q : L2.St → Hp → Prop} (E : Env K A W0 H0 O W σ H ρ r) (hO : t.ok O) (h : Dw K A W H v d) (q : vBind t d ρ Q0) (k : ∀ ρ' σ', Q0 ρ' → Env K A W0 H0 O W σ' H ρ' r → Q σ' H) : gOf K t v σ H Q := by
  cases t with
  | nm i => exact k _ _ q (E.set hO h)
  | tp is =>
    obtain ⟨ds, rfl, hl, q⟩ := q
    cases h with
    | tup h hx => exact ⟨_, _, rfl, h, by rw [hx.len, hl], bind_names E hO hx hl fun σ' E' => k _ σ' q E'⟩
end
def vAsgT (t : Tgt) (v : VT) : VTS := fun N ρ r => v ρ r fun d r1 => vBind t d ρ fun ρ' => N.nx ρ' r1
abbrev VTI := En → Rs → (List D → Rs → Prop) → Prop
/-- J walks the data ds, as long as frozen things stay -/
def Walks (K : PySem.W.Frag) (A : Amb) (W : Addr → Prop) (H : Hp) (J : It) (ds : List D) : Prop := ∃ (G : Hp → Prop) (Y : Nat → Hp → V → Hp → Prop), Walk J ds.length G Y ∧ (∀ W' H', StpV K W H W' H' → G H') ∧
  ∀ i H1 W1 x H2 d, ds[i]? = some d → StpV K W H W1 H1 → Y i H1 x H2 → Same H1 H2 ∧ Dw K A W1 H2 x d
def liftI (K : PySem.W.Frag) (O : List Nat) (vi : VTI) : TI := fun σ H R => ∃ (A : Amb) (W0 : Addr → Prop) (H0 : Hp) (W : Addr → Prop) (ρ : En) (r : Rs) (Q0 : List D → Rs → Prop), Env K A W0 H0 O W σ H ρ r ∧ vi ρ r Q0 ∧
  ∀ ds r', Q0 ds r' → ∀ J H' W', Ext K A W H W' H' → Env K A W0 H0 O W' σ H' ρ r' → Walks K A W' H' J ds → R J H'
def VI (X : Cx) (O : List Nat) (tg e : Expr) (vi : VTI) : Prop := PI X tg e (liftI X.K O vi)
theorem PI.imp {X : Cx} {tg e : Expr} {t t' : TI} (h : PI X tg e t) (i : ∀ σ H Q, t' σ H Q → t σ H Q) : PI X tg e t' := ⟨fun pins s σ H Q I q => h.run pins s σ H Q I (i σ H Q q)⟩
def strD (z : Str) : List D := z.cps.toList.map fun c => .str ⟨#[c]⟩
def dSeq : D → (List D → Prop) → Prop
  | .list ds, Q => Q ds
  | .tuple ds, Q => Q ds
  | .str z, Q => Q (strD z)
  | _, _ => False
def vSeqI (v : VT) : VTI := fun ρ r Q => v ρ r fun d r1 => dSeq d fun ds => Q ds r1
def rngD (lo : Int) (n : Nat) : List D := (List.range n).map fun (i : Nat) => .int (lo + (i : Int))
def vRng1 (va : VTA) : VTI := fun ρ r Q => va ρ r fun ds r1 => ∃ j, ds = [.int j] ∧ -(2 ^ 62) ≤ j ∧ j < 2 ^ 62 ∧ Q (rngD 0 j.toNat) r1
def vRng2 (va : VTA) : VTI := fun ρ r Q => va ρ r fun ds r1 => ∃ i j, ds = [.int i, .int j] ∧ (-(2 ^ 62) ≤ i ∧ i < 2 ^ 62 ∧ -(2 ^ 62) ≤ j ∧ j < 2 ^ 62) ∧ Q (rngD i (j - i).toNat) r1
def iSeq (K : PySem.W.Frag) (tl : TE) : TI := fun σ H R => tl σ H fun x H1 => (∃ a, x = .ref a ∧ (∃ xs, SqL K H1 a xs) ∧ R (Itl K a) H1) ∨ (∃ a, x = .ref a ∧ (∃ xs, SqT K H1 a xs) ∧ R (Itt K a) H1) ∨ ∃ z, x = .str z ∧ R (Its z) H1
section
variable {X : Cx} {O : List Nat} {e a b c tg : Expr} {es : List Expr} {v1 v2 v3 : VT} {vs : VTA} {pos : Pos}
theorem pi_seq {tl : TE} (hl : PE X e tl) : PI X tg e (iSeq X.K tl) := by
  refine ⟨fun pins s σ H R I h => ?_⟩
  refine thn (hl.run pins s σ H _ I h) fun v s1 ⟨x, H1, I1, r1, q1⟩ => ?_
  rcases q1 with ⟨a, e, ⟨xs, hq⟩, q⟩ | ⟨a, e, ⟨xs, hq⟩, q⟩ | ⟨x, ex, q⟩
  · subst e
    cases r1
    obtain ⟨its, rv, p, hz⟩ := I1.list hq
    refine wpAny_pyIter_list p.isList ?_
    refine ⟨s1.heap.objs.size, [s1.heap.objs.size], _, _, H1, rfl, I1.kept (t' := s1.toks) fun b o e => Heap.get?_push_of_some _ e, turn_list a _, ⟨_, Heap.get?_push_size _ rfl, rfl, rfl⟩, fun b hb => ?_, q⟩
    have e : b = s1.heap.objs.size := by simpa using hb
    subst e
    exact I1.fpOk (Nat.le_refl _) (I1.hok.fresh (Nat.le_refl _))
  · subst e
    cases r1
    obtain ⟨its, rv, p, hz⟩ := I1.tuple hq
    refine wpAny_pyIter_tuple (show s1.heap.IsTuple a its.toArray from p) ?_
    refine ⟨s1.heap.objs.size, [s1.heap.objs.size], _, _, H1, rfl, I1.kept (t' := s1.toks) fun b o e => Heap.get?_push_of_some _ e, turn_tuple a _, ⟨_, Heap.get?_push_size _ rfl, rfl, rfl⟩, fun b hb => ?_, q⟩
    have e : b = s1.heap.objs.size := by simpa using hb
    subst e
    exact I1.fpOk (Nat.le_refl _) (I1.hok.fresh (Nat.le_refl _))
  · subst ex
    obtain ⟨t, rfl⟩ := r1
    cases ha : x.cps.all (· < 128)
    · exact wpAny_pyIter_wide ha (pi_one (tk := s1.toks) I1 _ (turn_str _ x t "str_iterator" (.inr rfl)) ⟨_, Heap.get?_push_size _ rfl, rfl, rfl⟩ q)
    · exact wpAny_pyIter_ascii ha (pi_one (tk := s1.toks) I1 _ (turn_str _ x t "str_ascii_iterator" (.inl rfl)) ⟨_, Heap.get?_push_size _ rfl, rfl, rfl⟩ q)
theorem same_rfl {H : Hp} : Same H H := fun _ _ e => e
theorem walks_at {K : PySem.W.Frag} {A : Amb} {W W1 : Addr → Prop} {H H1 H2 : Hp} {xs : List V} {ds : List D} {i : Nat} {x : V} {d : D} (h : DwA K A W H xs ds) (e : ds[i]? = some d) (s : StpV K W H W1 H1) (y : YAt xs i H1 x H2) : Same H1 H2 ∧ Dw K A W1 H2 x d := by
  obtain ⟨rfl, y⟩ := y
  obtain ⟨v, e1, h1⟩ := h.get e
  rw [y] at e1
  cases e1
  exact ⟨same_rfl, h1.stp s⟩
/-- for x in e: a list, a tuple or a text -/
theorem vi_seq (h : VE X O e v1) : VI X O tg e (vSeqI v1) := PI.imp (pi_seq h) fun σ H R q => by
  obtain ⟨A, W0, H0, W, ρ, rs, Q0, E, q, k⟩ := q
  refine ⟨A, W0, H0, W, ρ, rs, _, E, q, fun d r1 q1 v H1 W1 x1 E1 m1 => ?_⟩
  cases m1 with
  | tup h1 h2 =>
    rename_i a xs ds
    refine .inr (.inl ⟨a, rfl, ⟨xs, h1⟩, k ds r1 q1 _ H1 W1 x1 E1 ⟨_, _, ?_, fun W' H' s => s.tp _ _ h1, fun i H1 W1 x H2 d e s y => walks_at h2 e s y⟩⟩)
    rw [← h2.len]
    exact walk_tup
  | lst w h1 h2 =>
    rename_i a xs ds
    refine .inl ⟨a, rfl, ⟨xs, .inl (.inl h1)⟩, k ds r1 q1 _ H1 W1 x1 E1 ⟨fun H => SqL X.K H a xs, _, ?_, fun W' H' s => SqL.of (s.wl _ _ w h1), fun i H1 W1 x H2 d e s y => walks_at h2 e s y⟩⟩
    rw [← h2.len]
    exact walk_list
  | str z =>
    refine .inr (.inr ⟨z, rfl, k _ r1 q1 _ H1 W1 x1 E1 ⟨fun _ => True, fun i H v H' => H' = H ∧ ∃ c, z.cps[i]? = some c ∧ v = .str ⟨#[c]⟩, ?_, fun W' H' s => trivial, fun i H1 W1 x H2 d e s y => ?_⟩⟩)
    · have : (strD z).length = z.cps.size := by simp [strD]
      rw [this]
      exact walk_str
    · obtain ⟨rfl, c, hc, rfl⟩ := y
      have : d = .str ⟨#[c]⟩ := by
        simp only [strD, List.getElem?_map] at e
        rw [Array.getElem?_toList, hc] at e
        simpa using e.symm
      rw [this]
      exact ⟨same_rfl, .str _⟩
  | _ => exact absurd q1 id
theorem walks_rng {K : PySem.W.Frag} {A : Amb} {W : Addr → Prop} {H : Hp} {lo : Int} {n : Nat} : Walks K A W H (Itr lo n) (rngD lo n) := by
  refine ⟨fun _ => True, YFn fun i => .int (lo + i), ?_, fun W' H' s => trivial, fun i H1 W1 x H2 d e s y => ?_⟩
  · have : (rngD lo n).length = n := by simp [rngD]
    rw [this]
    exact walk_range
  · obtain ⟨rfl, rfl⟩ := y
    have : d = .int (lo + i) := by
      simp only [rngD, List.getElem?_map] at e
      cases hi : (List.range n)[i]? with
      | none => rw [hi] at e; cases e
      | some j =>
        rw [hi] at e
        have hj := List.getElem?_eq_some_iff.mp hi
        obtain ⟨h1, h2⟩ := hj
        rw [List.getElem_range] at h2
        subst h2
        simpa using e.symm
    rw [this]
    exact ⟨same_rfl, .int _⟩
theorem vi_rng1 {p : Pos} (hg : Gl X "range") (hm : X.mg "range" = none) (ha : VAB X O [a] vs) (hs : starEach [a] X.env = [(false, eval a X.env)] := by rfl) : VI X O tg (.Call (.Name "range" p) [a] [] pos) (vRng1 vs) := PI.imp (pi_range1 hg hm ha hs) fun σ H R q => by
  obtain ⟨A, W0, H0, W, ρ, rs, Q0, E, q, k⟩ := q
  refine ⟨A, W0, H0, W, ρ, rs, _, E, q, fun ds r1 q1 us H1 W1 x1 E1 m1 => ?_⟩
  obtain ⟨j, rfl, g1, g2, q1⟩ := q1
  cases m1 with
  | cons h1 h2 =>
    cases h2
    exact ⟨j, by rw [h1.int], g1, g2, k _ r1 q1 _ H1 W1 x1 E1 walks_rng⟩
end
def vLoop (t : Tgt) (body : VTS) : List D → VTS
  | [], N, ρ, r => N.nx ρ r
  | d :: ds, N, ρ, r => vBind t d ρ fun ρ' => body { nx := vLoop t body ds N, ct := vLoop t body ds N, bk := N.nx, rt := N.rt } ρ' r
def vFor (vi : VTI) (t : Tgt) (body : VTS) : VTS := fun N ρ r => vi ρ r fun ds r1 => vLoop t body ds N ρ r1
def vWhile (c : VTT) (body : VTS) : VTS := fun N ρ r => ∃ I : Nat → En → Rs → Prop, (∃ m, I m ρ r) ∧ ∀ m ρ r, I m ρ r → c ρ r fun b r1 => if b = true then ∃ Nx : En → Rs → Prop, (∀ ρ' r', Nx ρ' r' → ∃ m', m' < m ∧ I m' ρ' r') ∧ body { nx := Nx, ct := Nx, bk := N.nx, rt := N.rt } ρ r1 else N.nx ρ r1
section
variable {X : Cx} {M : Mode} {B O O' O1 O2 : List Nat} {e a b c tg iter : Expr} {es : List Expr} {st : Stmt} {rest sts els body : List Stmt} {s1 s2 : VTS} {v1 v2 v3 : VT} {vs : VTA} {vi : VTI} {c1 c2 : VTT} {pos pos' : Pos} {i j : Nat} {x y : Str} {t : Tgt}
theorem vs_for (hp : PassesOwn (model X.prog X.w) X.A X.env X.xe) (hc : X.calm = true) (hi : VI X O tg iter vi) (hg : PG X tg (gOf X.K t)) (hb : VSs X M O O O body s1) (hO : t.ok O := by decide) (hs : ∀ x, foldedSetIterable iter X.env x = pure x := by intro _; rfl) :
    VS X M B O O (.For tg iter body [] pos) (vFor vi t s1) := PS.imp (ps_for hp hc hi hg hb hs) fun D σ H q => by
  obtain ⟨A, W0, H0, W, ρ, rs, N, E, q, kn, kr, kb, kc⟩ := q
  refine ⟨A, W0, H0, W, ρ, rs, _, E, q, fun ds r1 q1 J H1 W1 x1 E1 wk => ?_⟩
  obtain ⟨G, Y, w, hG, hY⟩ := wk
  have xs1 := x1.stp E.res.av
  refine for_it w (fun i σ' H' => ∃ ρ' r' W', Env X.K A W0 H0 O W' σ' H' ρ' r' ∧ StpV X.K W1 H1 W' H' ∧ vLoop t s1 (ds.drop i) N ρ' r') ⟨ρ, r1, W1, E1, .refl, by rw [List.drop_zero]; exact q1⟩ (fun i σ' H' _ ⟨ρ', r', W', E', s', _⟩ => hG W' H' s') ?_ ?_
  · rintro i x σ2 H2 H3 hi ⟨ρ2, r2, W2, E2, s2, q2⟩ hy
    obtain ⟨sm, hd⟩ := hY i H2 W2 x H3 ds[i] (List.getElem?_eq_getElem hi) s2 hy
    rw [List.drop_eq_getElem_cons hi] at q2
    refine bind_go (E2.same sm) hO hd q2 fun ρ3 σ3 q3 E3 => ?_
    have s3 : StpV X.K W1 H1 W2 H3 := s2.trans ((Ext.same (A := A) sm).stp E2.res.av)
    refine ⟨A, W0, H0, W2, ρ3, r2, _, E3, q3, fun ρ4 r4 q4 σ4 H4 W4 E4 s4 => ⟨ρ4, r4, W4, E4, s3.trans s4, q4⟩, kr, fun ρ4 r4 q4 σ4 H4 W4 E4 s4 => kn ρ4 r4 q4 σ4 H4 W4 E4 (xs1.trans (s3.trans s4)), fun ρ4 r4 q4 σ4 H4 W4 E4 s4 => ⟨ρ4, r4, W4, E4, s3.trans s4, q4⟩⟩
  · rintro σ2 H2 ⟨ρ2, r2, W2, E2, s2, q2⟩
    rw [List.drop_length] at q2
    exact kn ρ2 r2 q2 σ2 H2 W2 E2 (xs1.trans s2)
theorem vs_while (hp : PassesOwn (model X.prog X.w) X.A X.env X.xe) (hc : VTs X O c c1) (hb : VSs X M O O O body s1) : VS X M B O O (.While c body [] pos) (vWhile c1 s1) := PS.imp (ps_while hp hc hb) fun D σ H q => by
  obtain ⟨A, W0, H0, W, ρ, rs, N, E, ⟨I, ⟨m, h0⟩, q⟩, kn, kr, kb, kc⟩ := q
  refine ⟨fun m σ' H' => ∃ ρ' r' W', Env X.K A W0 H0 O W' σ' H' ρ' r' ∧ StpV X.K W H W' H' ∧ I m ρ' r', ⟨m, ρ, rs, W, E, .refl, h0⟩, ?_⟩
  rintro m σ2 H2 ⟨ρ2, r2, W2, E2, s2, h2⟩
  refine ⟨A, W0, H0, W2, ρ2, r2, _, E2, q m ρ2 r2 h2, fun b r3 q3 H3 W3 x3 E3 => ?_⟩
  have s3 := s2.trans (x3.stp E2.res.av)
  cases b with
  | true =>
    obtain ⟨Nx, hn, q3⟩ := q3
    refine iteT ⟨fun σ' H' => ∃ ρ' r' W', Env X.K A W0 H0 O W' σ' H' ρ' r' ∧ StpV X.K W H W' H' ∧ Nx ρ' r', ?_, ?_⟩
    · rintro σ' H' ⟨ρ', r', W', E', s', h'⟩
      obtain ⟨m', l, h'⟩ := hn ρ' r' h'
      exact ⟨m', l, ρ', r', W', E', s', h'⟩
    · exact ⟨A, W0, H0, W3, ρ2, r3, _, E3, q3, fun ρ4 r4 q4 σ4 H4 W4 E4 s4 => ⟨ρ4, r4, W4, E4, s3.trans s4, q4⟩, kr, fun ρ4 r4 q4 σ4 H4 W4 E4 s4 => kn ρ4 r4 q4 σ4 H4 W4 E4 (s3.trans s4), fun ρ4 r4 q4 σ4 H4 W4 E4 s4 => ⟨ρ4, r4, W4, E4, s3.trans s4, q4⟩⟩
  | false => exact iteF (kn ρ2 r3 q3 σ2 H3 W3 E3 s3)
end
end Sn
namespace Sn
open PySem PySem.Spec PyProof.Rows L2
abbrev VF := List D → Rs → (D → Rs → Prop) → Prop
/-- a def's promise by data -/
def spV (K : PySem.W.Frag) (M : Mode) (vf : VF) : Sp := fun vs H Q _ => ∃ (A : Amb) (W : Addr → Prop) (ds : List D) (r : Rs) (Q0 : D → Rs → Prop), Res K A W H r ∧ DwA K A W H vs ds ∧ vf ds r Q0 ∧
  ∀ d r', Q0 d r' → ∀ v H' W', Ext K A W H W' H' → Res K A W' H' r' → M K A H W' H' v d → Q v H'
def vCall (vf : VF) (va : VTA) : VT := fun ρ r Q => va ρ r fun ds r1 => vf ds r1 Q
def startV (N : List Str) (ds : List D) : En := ds.map some ++ List.replicate (N.length - ds.length) none
/-- a mode that asks nothing of the def's parameters -/
class NoneM (M : Mode) : Prop where
  reb : ∀ {K : PySem.W.Frag} {A B : Amb} {W : Addr → Prop} {Hs H : Hp} {v : V} {d : D}, A.Like B → M K A Hs W H v d → M K B Hs W H v d
  non : ∀ {K : PySem.W.Frag} {A : Amb} {W : Addr → Prop} {Hs H : Hp}, M K A Hs W H .non .none
instance : NoneM mF := ⟨fun l h => Dw.reb l.d l.s l.as h, .non⟩
instance : NoneM mB := ⟨fun l h => h.elim (fun h => .inl (Dw.reb l.d l.s l.as h)) fun ⟨a, e, h, u⟩ => .inr ⟨a, e, h.reb l.d l.s l.as, fun z => u ((l.U a).mp z)⟩, .inl .non⟩
instance : NoneM mL := ⟨fun l h => h.elim (fun ⟨m, a, e, h, w, u, n⟩ => .inl ⟨m, a, e, h.reb l.d l.s l.as, w, fun z => u ((l.U a).mp z), n⟩) fun ⟨m, h⟩ => .inr ⟨m, Dw.reb l.d l.s l.as h⟩, .inr ⟨rfl, .non⟩⟩
theorem start_at {N : List Str} {ds : List D} {i : Nat} {d : D} (h : (startV N ds)[i]? = some (some d)) : ds[i]? = some d := by
  unfold startV at h
  by_cases hi : i < ds.length
  · rw [List.getElem?_append_left (by simpa using hi), List.getElem?_map] at h
    cases e : ds[i]? with
    | none => rw [e] at h; cases h
    | some d' => rw [e] at h; cases h; rfl
  · rw [List.getElem?_append_right (by simpa using Nat.le_of_not_lt hi)] at h
    have := List.mem_of_getElem? h
    rw [List.mem_replicate] at this
    cases this.2
theorem env_start {K : PySem.W.Frag} {A : Amb} {W : Addr → Prop} {H : Hp} {N : List Str} {vs : List V} {ds : List D} {r : Rs} (R : Res K A W H r) (h : DwA K A W H vs ds) (hb : A.bo = []) : Env K A W H [] W (start N vs) H (startV N ds) r where
  len := by simp [L2.start, startV, h.len]
  var := fun i d e _ => by
    have e2 := start_at e
    obtain ⟨v, e1, hv⟩ := h.get e2
    refine ⟨v, ?_, hv⟩
    unfold L2.start
    have hi : i < vs.length := (List.getElem?_eq_some_iff.mp e1).1
    rw [List.getElem?_append_left (by simpa using hi), List.getElem?_map, e1]
    rfl
  own := fun i d _ n => absurd n.1 (by simp)
  dis := fun i j a d e n => absurd n.1 (by simp)
  res := R
  rdo := fun i d _ n => absurd n (by simp)
  rin := fun i n => absurd n (by simp)
  bor := fun i a n => absurd n (by rw [hb]; simp)
  bs := .refl
section
variable {P : Program} {w : World} {K : PySem.W.Frag} {mg : Str → Option Value} {base : Heap} {x qual : Str} {st : Stmt} {f : Addr} {fd : FuncData} {N ps : List Str} {k : Nat} {M : Mode} {vf : VF} {vts : VTS} {O' : List Nat}
theorem body_run [NoneM M] {A : Amb} {W : Addr → Prop} {H : Hp} {vs : List V} {ds : List D} {r : Rs} {Q0 : D → Rs → Prop} {Q : VK} (R : Res K A W H r) (hv : DwA K A W H vs ds) (law : vts { nx := fun _ r => Q0 .none r, rt := Q0 } (startV N ds) r)
    (k : ∀ d r', Q0 d r' → ∀ v H' W', Ext K A W H W' H' → Res K A W' H' r' → M K A H W' H' v d → Q v H') : liftS K M [] [] O' vts { nx := fun _ H' => Q .non H', rt := Q } (start N vs) H := by
  have l := A.like []
  refine ⟨A.reb [], W, H, W, startV N ds, r, _, env_start (R.reb l) (hv.reb l.d l.s l.as) rfl, law, fun ρ' r' q σ' H' W' E' _ => ?_, fun d r' q v H' W' x R' m => k d r' q v H' W' (x.reb l.sym) (R'.reb l.sym) (NoneM.reb l.sym m), fun _ _ z => z.elim, fun _ _ z => z.elim⟩
  exact k _ r' q _ H' W' (E'.bs.reb l.sym) (E'.res.reb l.sym) NoneM.non
/-- a def, by its body's reading by data -/
theorem okV [NoneM M] (F : Fun K x qual st f fd) (S : FnScope N ps (defScope st)) (hl : ∀ ds r Q, vf ds r Q → ds.length = ps.length)
    (hb : ∀ (cdv : Value) (A : Around) (outer : List PySem.Env) (s : Shared) (H : Hp) (E : XK), Room k (A.deeper (envOfC qual (defScope st) s.heap.objs.size f cdv)) → VSs (cxOf CX0 P w K mg base N qual (defScope st) f cdv A outer s H E).nox M [] [] O' (defBody st) vts)
    (law : ∀ ds r Q, vf ds r Q → vts { nx := fun _ r => Q .none r, rt := Q } (startV N ds) r) : FnOk P w K mg base CX0 (k + 1) f fd ps (spV K M vf) := by
  refine F.ok S (fun vs H Q E h => ?_) (fun cdv A outer s H vs Q E hr h => ?_)
  · obtain ⟨A, W, ds, r, Q0, R, hv, q, _⟩ := h
    rw [hv.len]
    exact hl _ _ _ q
  · obtain ⟨A1, W, ds, r, Q0, R, hv, q, kk⟩ := h
    exact ⟨_, hb cdv A outer s H E hr, body_run R hv (law _ _ _ q) kk⟩
end
section
variable {X : Cx} {M : Mode} {O : List Nat} {k : Nat} {f : Addr} {fd : FuncData} {ps : List Str} {vf : VF} {x : Str} {p pos : Pos} {e o : Expr} {es : List Expr} {vs : VTA} {vo : VT}
theorem lift_call {sp : Sp} (g : GoodM M) (es : sp = spV X.K M vf) {E : XK} {σ : L2.St} {H : Hp} {Q : VK} (q : liftM X.K O M (vCall vf vs) σ H Q) : tCall sp [] E (liftA X.K O mF vs) σ H Q := by
  subst es
  obtain ⟨A, W0, H0, W, ρ, r, Q0, E, q, k⟩ := q
  refine ⟨A, W0, H0, W, ρ, r, _, E, q, fun ds r1 q1 us H1 W1 x1 E1 m1 => ?_⟩
  show spV X.K M vf (us ++ []) H1 Q _
  rw [List.append_nil]
  exact ⟨A, W1, ds, r1, _, E1.res, m1.dw, q1, fun d r2 q2 v H2 W2 x2 R2 m2 => k d r2 q2 v H2 W2 (x1.trans x2) (E1.ext x2 R2) (g.bk m2 x1.al)⟩
/-- f(e, ..) -/
theorem vm_call (g : GoodM M) (F : FnOk X.prog X.w X.K X.mg X.base CX0 k f fd ps (spV X.K M vf)) (hr : Room k X.A) (hg : Gl X x) (hm : X.mg x = some (.ref f)) (hk : PySem.W.keepIn X.K (.ref f) = true) (hb : Binds X.K fd ps [])
    (ha : VA X O (e :: es) vs) (hdb : (x == ("__debug__" : Str)) = false := by decide) (he : starEach (e :: es) X.env = (false, eval e X.env) :: starEach es X.env := by rfl) (hpl : (backTo pos (starEach es X.env)).any (·.1) = false := by rfl) :
    PE X (.Call (.Name x p) (e :: es) [] pos) (liftM X.K O M (vCall vf vs)) := PE.imp (pe_call F hr hg hm hk hb .nil pass0 ha hdb he hpl) fun _ _ _ q => lift_call g rfl q
theorem ve_call (F : FnOk X.prog X.w X.K X.mg X.base CX0 k f fd ps (spV X.K mF vf)) (hr : Room k X.A) (hg : Gl X x) (hm : X.mg x = some (.ref f)) (hk : PySem.W.keepIn X.K (.ref f) = true) (hb : Binds X.K fd ps [])
    (ha : VA X O (e :: es) vs) (hdb : (x == ("__debug__" : Str)) = false := by decide) (he : starEach (e :: es) X.env = (false, eval e X.env) :: starEach es X.env := by rfl) (hpl : (backTo pos (starEach es X.env)).any (·.1) = false := by rfl) :
    VE X O (.Call (.Name x p) (e :: es) [] pos) (vCall vf vs) := vm_call goodF F hr hg hm hk hb ha hdb he hpl
end
def CallSim (K : PySem.W.Frag) (M : Mode) (r : List V → Hp → VK → Prop) (f : List D → (D → Prop) → Prop) : Prop := ∀ (A : Amb) (W : Addr → Prop) (H : Hp) (rs : Rs) (xs : List V) (ds : List D) (Q0 : D → Prop) (Q : VK), Res K A W H rs → AllM mB K A H W H xs ds → f ds Q0 →
  (∀ d, Q0 d → ∀ v H' W', Ext K A W H W' H' → Res K A W' H' rs → M K A H W' H' v d → Q v H') → r xs H Q
/-- o.m(e, ..) of a built-in type -/
def vMt (ty : D → Prop) (f : D → List D → (D → Prop) → Prop) (vo : VT) (va : VTA) : VT := fun ρ r Q => vo ρ r fun d r1 => ty d ∧ va ρ r1 fun ds r2 => f d ds fun z => Q z r2
theorem mB.any {K : PySem.W.Frag} {A : Amb} {W : Addr → Prop} {Hs Hs' H : Hp} {v : V} {d : D} (h : mB K A Hs W H v d) : mB K A Hs' W H v d := h
theorem AllM.bB {K : PySem.W.Frag} {A : Amb} {W : Addr → Prop} {Hs Hs' H : Hp} : ∀ {vs : List V} {ds : List D}, AllM mB K A Hs W H vs ds → AllM mB K A Hs' W H vs ds
  | _, _, .nil => .nil
  | _, _, .cons h a => .cons h.any a.bB
theorem AllM.st {M : Mode} (g : GoodM M) {K : PySem.W.Frag} {A : Amb} {W W' : Addr → Prop} {Hs H H' : Hp} (x : Ext K A W H W' H') (av : ∀ a, W a → ¬ A.U a) : ∀ {vs : List V} {ds : List D}, AllM M K A Hs W H vs ds → AllM M K A Hs W' H' vs ds
  | _, _, .nil => .nil
  | _, _, .cons h a => .cons (g.st h x av) (a.st g x av)
/-- what an attribute's type is by data -/
def tyD : String → D → Prop
  | "str", .str _ => True
  | "list", .list _ => True
  | _, _ => False
section
variable {X : Cx} {M : Mode} {O : List Nat} {x name : Str} {p pos apos cpos : Pos} {e o : Expr} {es : List Expr} {vs : VTA} {vo : VT} {id T : String} {r : List V → Hp → VK → Prop} {rm : V → List V → Hp → VK → Prop} {f : List D → (D → Prop) → Prop} {fm : D → List D → (D → Prop) → Prop}
theorem lift_cb (g : GoodM M) (s : CallSim X.K M r f) {σ : L2.St} {H : Hp} {Q : VK} (q : liftM X.K O M (vCB f vs) σ H Q) : tCB r (liftA X.K O mB vs) σ H Q := by
  obtain ⟨A, W0, H0, W, ρ, rr, Q0, E, q, k⟩ := q
  refine ⟨A, W0, H0, W, ρ, rr, _, E, q, fun ds r1 q1 us H1 W1 x1 E1 m1 => ?_⟩
  exact s A W1 H1 r1 us ds _ Q E1.res m1.bB q1 fun d hd v H2 W2 x2 R2 m2 => k d r1 hd v H2 W2 (x1.trans x2) (E1.ext x2 R2) (g.bk m2 x1.al)
theorem vm_callB (g : GoodM M) (hc : CallR X (.builtin id) r) (s : CallSim X.K M r f) (hg : Gl X x) (hm : X.mg x = none) (hv : bootBuiltins x = some (.builtin id)) (ha : VAB X O (e :: es) vs) (hn : x ≠ "__name__" := by decide) (hdb : (x == ("__debug__" : Str)) = false := by decide)
    (he : starEach (e :: es) X.env = (false, eval e X.env) :: starEach es X.env := by rfl) (hpl : (backTo pos (starEach es X.env)).any (·.1) = false := by rfl) : PE X (.Call (.Name x p) (e :: es) [] pos) (liftM X.K O M (vCB f vs)) :=
  PE.imp (pe_callB hc hg hm hv ha hn hdb he hpl) fun _ _ _ q => lift_cb g s q
theorem vm_callTy (g : GoodM M) (hc : CallR X (.type T) r) (s : CallSim X.K M r f) (hg : Gl X x) (hm : X.mg x = none) (hv : bootBuiltins x = some (.type T)) (ha : VAB X O (e :: es) vs) (hn : x ≠ "__name__" := by decide) (hdb : (x == ("__debug__" : Str)) = false := by decide)
    (he : starEach (e :: es) X.env = (false, eval e X.env) :: starEach es X.env := by rfl) (hpl : (backTo pos (starEach es X.env)).any (·.1) = false := by rfl) : PE X (.Call (.Name x p) (e :: es) [] pos) (liftM X.K O M (vCB f vs)) :=
  PE.imp (pe_callTy hc hg hm hv ha hn hdb he hpl) fun _ _ _ q => lift_cb g s q
end
end Sn
namespace Sn
open PySem PySem.Spec PyProof.Rows L2
def wipeE (ρ : En) : List Nat → En
  | [] => ρ
  | v :: vs => (wipeE ρ vs).set v none
section
variable {K : PySem.W.Frag} {A : Amb} {W0 W W' W2 : Addr → Prop} {H0 H H' H2 : Hp} {O : List Nat} {σ : L2.St} {ρ : En} {r r' : Rs} {p : Addr} {o o' : HO}
theorem Env.wipe (E : Env K A W0 H0 O W σ H ρ r) : ∀ vs : List Nat, (∀ v ∈ vs, Rep O v) → Env K A W0 H0 O W (L2.wipe σ vs) H (wipeE ρ vs) r
  | [], _ => E
  | v :: vs, h => (E.wipe vs fun w hw => h w (List.mem_cons_of_mem _ hw)).drop v none (h v List.mem_cons_self)
/-- a new thing of ours is changed -/
theorem Ext.updNew (x : Ext K A W H W' H') (n : H p = none) (h : H' p = some o) (ho : ∀ ys u, o ≠ .tup ys ∧ o ≠ .frz u (.tup ys)) : Ext K A W H W' (upd H' p o') where
  fr := fun a q u e => by
    rw [upd_ne (ne_of_none e n)]
    exact x.fr a q u e
  al := fun a e => by
    by_cases q : a = p
    · rw [q]; exact n
    · rw [upd_ne q] at e; exact x.al a e
  tp := fun a xs e => sqT_put h ho (x.tp a xs e)
  wk := x.wk
  wn := x.wn
theorem Own.updN {a : Addr} {d : D} (q : Own K A W H a d) (hw : ¬ W p) (h : H p = some o) (ho : ∀ ys u, o ≠ .tup ys ∧ o ≠ .frz u (.tup ys)) (n : a ≠ p) : Own K A W (upd H p o') a d :=
  q.mov (fun _ e => e) (fun b u w e => by rw [upd_ne (fun z => hw (by rw [← z]; exact w))]; exact e) (fun b xs e => sqT_put h ho e) fun u e => by rw [upd_ne n]; exact e
theorem Cel.updN {a : Addr} {d : D} (q : Cel K A W H a d) (hw : ¬ W p) (h : H p = some o) (ho : ∀ ys u, o ≠ .tup ys ∧ o ≠ .frz u (.tup ys)) (n : a ≠ p) : Cel K A W (upd H p o') a d :=
  q.mov (fun _ e => e) (fun b u w e => by rw [upd_ne (fun z => hw (by rw [← z]; exact w))]; exact e) (fun b xs e => sqT_put h ho e) fun u e => by rw [upd_ne n]; exact e
theorem Res.updN (R : Res K A W H r) (hw : ¬ W p) (hu : ¬ A.U p) (h : H p = some o) (ho : ∀ ys u, o ≠ .tup ys ∧ o ≠ .frz u (.tup ys)) : Res K A W (upd H p o') r where
  dr := by
    obtain ⟨⟨l, t, g0, g1, g2⟩, ⟨ns, g3⟩, ⟨ms, g4⟩, g5⟩ := R.dr
    have ne : ∀ {b : Addr}, A.U b → b ≠ p := fun u z => hu (by rw [← z]; exact u)
    exact ⟨⟨l, t, g0, g1, by rw [upd_ne (ne (.inl rfl))]; exact g2⟩, ⟨ns, by rw [upd_ne (ne (.inr (.inl rfl)))]; exact g3⟩, ⟨ms, by rw [upd_ne (ne (.inr (.inr (.inl rfl))))]; exact g4⟩, g5⟩
  sc := R.sc.mov fun sk o q => by rw [upd_ne fun z => hu (by rw [← z]; exact .inr (.inr (.inr (.inr ⟨sk, rfl⟩))))]; exact q
  sl := R.sl
  sg := R.sg
  le := R.le
  ce := fun n a d e1 e2 => (R.ce n a d e1 e2).updN hw h ho fun z => hu (by rw [← z]; exact .inr (.inr (.inr (.inl (List.mem_of_getElem? e1)))))
  nd := R.nd
  na := R.na
  av := R.av
  wa := fun a w e => by
    by_cases q : a = p
    · exact hw (by rw [← q]; exact w)
    · rw [upd_ne q] at e; exact R.wa a w e
end
/-- the items of a comprehension -/
def vLcGo (t : Tgt) (c : VTT) (v : VT) (ρ : En) : List D → Rs → (List D → Rs → Prop) → Prop
  | [], r, Q => Q [] r
  | d :: ds, r, Q => vBind t d ρ fun ρ' => c ρ' r fun b r1 => if b = true then v ρ' r1 fun z r2 => vLcGo t c v ρ ds r2 fun zs r3 => Q (z :: zs) r3 else vLcGo t c v ρ ds r1 Q
def vYes : VTT := fun _ r Q => Q true r
/-- [e for t in i if c]; vs: the comprehension's names -/
def vLc (vs : List Nat) (vi : VTI) (t : Tgt) (c : VTT) (v : VT) : VT := fun ρ r Q => vi ρ r fun ds r1 => ds.length ≤ sizeLine ∧ vLcGo t c v (wipeE ρ vs) ds r1 fun zs r2 => Q (.list zs) r2
def Tgt.In (vs : List Nat) : Tgt → Prop
  | .nm i => i ∈ vs
  | .tp is => ∀ i ∈ is, i ∈ vs
instance (O : List Nat) (t : Tgt) : Decidable (t.In O) := by
  cases t <;> unfold Tgt.In <;> infer_instance
theorem wipe_set {i : Nat} {x : Option V} : ∀ {vs : List Nat} {σ : L2.St}, i ∈ vs → L2.wipe (σ.set i x) vs = L2.wipe σ vs
  | [], _, h => by simp at h
  | v :: vs, σ, h => by
    unfold L2.wipe
    by_cases q : i ∈ vs
    · rw [wipe_set q]
    · have e : i = v := by simpa [q] using h
      subst e
      have key : ∀ (ws : List Nat) (σ : L2.St), i ∉ ws → L2.wipe (σ.set i x) ws = (L2.wipe σ ws).set i x := by
        intro ws
        induction ws with
        | nil => intro σ _; rfl
        | cons w ws ih =>
          intro σ hn
          have hn1 : w ≠ i := fun z => hn (by rw [z]; exact List.mem_cons_self)
          unfold L2.wipe
          rw [ih σ fun z => hn (List.mem_cons_of_mem _ z), List.set_comm _ _ hn1.symm]
      rw [key vs σ q, List.set_set]
section
variable {K : PySem.W.Frag} {A : Amb} {W0 W : Addr → Prop} {H0 H : Hp} {O : List Nat} {σ : L2.St} {ρ : En} {r : Rs} {v : V} {d : D}
theorem bind_namesW {vs : List Nat} : ∀ {is : List Nat} {xs : List V} {ds : List D} {σ : L2.St} {ρ : En} {Q : L2.St → Hp → Prop}, Env K A W0 H0 O W σ H ρ r → (∀ i ∈ is, i ∉ O) → (∀ i ∈ is, i ∈ vs) → DwA K A W H xs ds → ds.length = is.length → (∀ σ', L2.wipe σ' vs = L2.wipe σ vs → Env K A W0 H0 O W σ' H (setAll ρ is ds) r → Q σ' H) → gNames is xs σ H Q
  | [], xs, ds, σ, ρ, Q, E, hO, hv, h, hl, k => by
    cases h with
    | nil => exact ⟨rfl, k σ rfl E⟩
    | cons _ _ => simp at hl
  | i :: is, xs, ds, σ, ρ, Q, E, hO, hv, h, hl, k => by
    cases h with
    | nil => simp at hl
    | cons h1 h2 =>
      refine ⟨_, _, rfl, ?_⟩
      refine bind_namesW (E.set (hO i (List.mem_cons_self ..)) h1) (fun j hj => hO j (List.mem_cons_of_mem _ hj)) (fun j hj => hv j (List.mem_cons_of_mem _ hj)) h2 (by simpa using hl) fun σ' e E' => k σ' (by rw [e, wipe_set (hv i (List.mem_cons_self ..))]) E'
theorem bind_goW {t : Tgt} {vs : List Nat} {Q0 : En → Prop} {Q : L2.St → Hp → Prop} (E : Env K A W0 H0 O W σ H ρ r) (hO : t.ok O) (hv : t.In vs) (h : Dw K A W H v d) (q : vBind t d ρ Q0) (k : ∀ ρ' σ', Q0 ρ' → L2.wipe σ' vs = L2.wipe σ vs → Env K A W0 H0 O W σ' H ρ' r → Q σ' H) : gOf K t v σ H Q := by
  cases t with
  | nm i => exact k _ _ q (wipe_set hv) (E.set hO h)
  | tp is =>
    obtain ⟨ds, rfl, hl, q⟩ := q
    cases h with
    | tup h hx => exact ⟨_, _, rfl, h, by rw [hx.len, hl], bind_namesW E hO hv hx hl fun σ' e E' => k _ σ' q e E'⟩
end
theorem wipe_wipe (σ : L2.St) (vs : List Nat) : L2.wipe (L2.wipe σ vs) vs = L2.wipe σ vs := by
  have key : ∀ ws : List Nat, (∀ i ∈ ws, i ∈ vs) → L2.wipe (L2.wipe σ ws) vs = L2.wipe σ vs := by
    intro ws
    induction ws with
    | nil => intro _; rfl
    | cons w ws ih =>
      intro h
      rw [show L2.wipe σ (w :: ws) = (L2.wipe σ ws).set w none from rfl, wipe_set (h w List.mem_cons_self), ih fun i hi => h i (List.mem_cons_of_mem _ hi)]
  exact key vs fun _ h => h
section
variable {X : Cx} {O : List Nat} {elt tg iter : Expr} {ifs : List Expr} {scope : Scope} {own : List (Str × Nat)} {pos : Pos} {vi : VTI} {t : Tgt} {c : VTT} {v : VT}
theorem lstNT {xs : List V} : ∀ ys u, HO.lst xs ≠ .tup ys ∧ HO.lst xs ≠ .frz u (.tup ys) := fun _ _ => ⟨fun z => (by cases z), fun z => (by cases z)⟩
theorem lc_lift {vs : List Nat} {σ : L2.St} {H : Hp} {Q : VK} (hO : t.ok O) (hv : t.In vs) (hW : ∀ v ∈ vs, Rep O v) (q : liftM X.K O mL (vLc vs vi t c v) σ H Q) : tLc (liftI X.K O vi) (gOf X.K t) (liftT X.K O c) (liftM X.K O mF v) vs σ H Q := by
  obtain ⟨A, W0, H0, W, ρ, r, Q0, E, q, k⟩ := q
  refine ⟨A, W0, H0, W, ρ, r, _, E, q, fun ds r1 q1 J H1 W1 x1 E1 wk => ?_⟩
  obtain ⟨hlen, q1⟩ := q1
  intro p hp
  obtain ⟨G, Y, w, hG, hY⟩ := wk
  have hU : ¬ A.U p := E1.res.uNew hp
  refine lc_it w (fun i H' => ∃ r' W' acc zs, Ext X.K A W1 H1 W' H' ∧ Res X.K A W' H' r' ∧ H' p = some (.lst acc) ∧ acc.length ≤ i ∧ DwA X.K A W' H' acc zs ∧ ¬ W' p ∧ vLcGo t c v (wipeE ρ vs) (ds.drop i) r' fun zs' r2 => Q0 (.list (zs ++ zs')) r2) ?_ ?_ ?_ ?_
  · exact ⟨r1, W1, [], [], Ext.new hp, E1.res.same (same_new hp), upd_same, Nat.le_refl _, .nil, fun z => E1.res.wa p z hp, by rw [List.drop_zero]; exact q1⟩
  · rintro i H' _ ⟨r', W', acc, zs, x', R', _⟩
    exact hG W' H' (x'.stp E1.res.av)
  · rintro i y H' H2 hi ⟨r', W', acc, zs, x', R', hacc, hl, hz, nW, q2⟩ hy
    obtain ⟨sm, hd⟩ := hY i H' W' y H2 ds[i] (List.getElem?_eq_getElem hi) (x'.stp E1.res.av) hy
    rw [List.drop_eq_getElem_cons hi] at q2
    have E2 := ((E1.ext x' R').same sm).wipe vs hW
    refine bind_goW E2 hO hv hd q2 fun ρ3 σ3 q3 e3 E3 => ⟨by rw [e3, wipe_wipe], ?_⟩
    refine ⟨A, W0, H0, W', ρ3, r', _, E3, q3, fun b r4 q4 H4 W4 x4 E4 => ?_⟩
    have x02 : Ext X.K A W1 H1 W' H2 := x'.trans (Ext.same sm)
    have h2 : H2 p = some (.lst acc) := sm _ _ hacc
    have h4 : H4 p = some (.lst acc) := x4.fr _ _ hU h2
    have n4 : ¬ W4 p := fun z => (x4.wn p z).elim nW fun z => by rw [z] at h2; cases h2
    cases b with
    | true =>
      refine iteT ⟨A, W0, H0, W4, ρ3, r4, _, E4, q4, fun z r5 q5 u H5 W5 x5 E5 m5 => ?_⟩
      have h5 : H5 p = some (.lst acc) := x5.fr _ _ hU h4
      have n5 : ¬ W5 p := fun z => (x5.wn p z).elim n4 fun z => by rw [z] at h4; cases h4
      refine ⟨acc, h5, by omega, r5, W5, acc ++ [u], zs ++ [z], ((x02.trans x4).trans x5).updNew hp h5 lstNT, E5.res.updN n5 hU h5 lstNT, upd_same, by rw [List.length_append]; show acc.length + 1 ≤ i + 1; omega, ?_, n5, ?_⟩
      · have hz5 : DwA X.K A W5 H5 acc zs := ((hz.ext (Ext.same sm) R'.av).ext x4 E3.res.av).ext x5 E4.res.av
        exact (hz5.app (.cons m5 .nil)).mov (fun _ e => e) (fun b u w e => by rw [upd_ne (fun z => n5 (by rw [← z]; exact w))]; exact e) fun b xs e => sqT_put h5 lstNT e
      · simpa using q5
    | false =>
      refine iteF ⟨r4, W4, acc, zs, x02.trans x4, E4.res, h4, by omega, ((hz.ext (Ext.same sm) R'.av).ext x4 E3.res.av), n4, q4⟩
  · rintro H' ⟨r', W', acc, zs, x', R', hacc, hl, hz, nW, q2⟩
    rw [List.drop_length] at q2
    have q2 : Q0 (.list (zs ++ [])) r' := q2
    rw [List.append_nil] at q2
    exact k _ r' q2 _ H' W' (x1.trans x') (E1.ext x' R') (.inl ⟨rfl, p, rfl, .lst hacc hz, nW, hU, x1.al p hp⟩)
theorem vl_lc (hc : X.calm = true) (hN : X.N.Nodup) (hi : VI X O tg iter vi) (ok : BlkOk X.N X.env.scope scope own)
    (hg : ∀ (s : Shared) (H : Hp) (C : Addr) (cl : List (Str × Addr)) (fp : List Addr), PG (X.blk s H scope (compEnvC scope cl C X.env) fp) tg (gOf X.K t)) (ht : ∀ (s : Shared) (H : Hp) (C : Addr) (cl : List (Str × Addr)) (fp : List Addr), PTs (X.blk s H scope (compEnvC scope cl C X.env) fp) ifs (liftT X.K O c))
    (he : ∀ (s : Shared) (H : Hp) (C : Addr) (cl : List (Str × Addr)) (fp : List Addr), VE (X.blk s H scope (compEnvC scope cl C X.env) fp) O elt v) (hO : t.ok O := by decide) (hv : t.In (own.map (·.2)) := by decide) (hW : ∀ v ∈ own.map (·.2), Rep O v := by decide) (hs : ∀ x, foldedSetIterable iter X.env x = pure x := by intro _; rfl) :
    VL X O (.ListComp elt [⟨tg, iter, ifs, 0⟩] scope pos) (vLc (own.map (·.2)) vi t c v) := PE.imp (pe_lc (te := liftM X.K O mF v) hc hN hi ok hg ht he hs) fun _ _ _ q => lc_lift hO hv hW q
theorem vpts_nil : PTs X [] (liftT X.K O vYes) := ⟨fun pins s σ H Q I q => pts_nil.run pins s σ H Q I (by
  obtain ⟨A, W0, H0, W, ρ, r, Q0, E, q, k⟩ := q
  exact k true r q H W .refl E)⟩
end
end Sn
namespace Sn
open PySem PySem.Spec PyProof.Rows L2
section
variable {X : Cx} {O : List Nat} {x : Str} {p pos apos cpos : Pos} {e a b o : Expr} {es : List Expr} {vs : VTA} {v1 v2 vo : VT}
variable {K : PySem.W.Frag}
/-- len -/
def dLen : List D → (D → Prop) → Prop
  | [.list xs], Q => Q (.int xs.length)
  | [.tuple xs], Q => Q (.int xs.length)
  | [.str z], Q => z.length ≤ sizeLine ∧ Q (.int z.length)
  | [.dict kvs], Q => isTok kvs = false ∧ Q (.int kvs.length)
  | _, _ => False
/-- len of a dict, locked or not -/
theorem call_lenR : CallR X (.builtin "len") (fun xs H Q => ∃ a kvs, xs = [V.ref a] ∧ IsK H a kvs ∧ Q (.int kvs.length) H) := by
  intro pins s σ H xs us Q I r h
  obtain ⟨a, kvs, rfl, ha, q⟩ := h
  obtain ⟨u, rfl, ru⟩ := vals1 r
  cases ru
  exact d_len I ha fun t s' I' => ⟨.int kvs.length, H, I', ⟨t, rfl⟩, q⟩
theorem sim_len : CallSim K mL (fun xs H Q => ((∃ p ys, xs = [.ref p] ∧ (SqL K H p ys ∨ SqT K H p ys) ∧ Q (.int ys.length) H) ∨ (∃ z, xs = [.str z] ∧ z.length ≤ sizeLine ∧ Q (.int z.length) H)) ∨ ∃ a kvs, xs = [V.ref a] ∧ IsK H a kvs ∧ Q (.int kvs.length) H) dLen := by
  intro A W H rs xs ds Q0 Q R m q k
  unfold dLen at q
  split at q
  · cases m with
    | cons m1 m2 =>
      cases m2
      obtain ⟨a, ys, rfl, h, g⟩ := m1.lst
      exact .inl (.inl ⟨a, ys, rfl, .inl (SqL.of h), by rw [g.len]; exact flat_go R k q rfl (.int _)⟩)
  · cases m with
    | cons m1 m2 =>
      cases m2
      obtain ⟨a, ys, rfl, h, g⟩ := m1.tup
      exact .inl (.inl ⟨a, ys, rfl, .inr h, by rw [g.len]; exact flat_go R k q rfl (.int _)⟩)
  · cases m with
    | cons m1 m2 =>
      cases m2
      exact .inl (.inr ⟨_, by rw [m1.str], q.1, flat_go R k q.2 rfl (.int _)⟩)
  · cases m with
    | cons m1 m2 =>
      cases m2
      obtain ⟨a, ys, rfl, h, g⟩ := m1.dic q.1
      exact .inr ⟨a, ys, rfl, h, by rw [g.len]; exact flat_go R k q.2 rfl (.int _)⟩
  · exact q.elim
theorem ve_len (hg : Gl X "len") (hm : X.mg "len" = none) (ha : VAB X O [a] vs) (he : starEach [a] X.env = (false, eval a X.env) :: starEach [] X.env := by rfl) (hpl : (backTo pos (starEach [] X.env)).any (·.1) = false := by rfl) : VL X O (.Call (.Name "len" p) [a] [] pos) (vCB dLen vs) :=
  vm_callB goodL ((call_len_seq.or call_len_str).or call_lenR) sim_len hg hm PySem.boot_len ha (he := he) (hpl := hpl)
theorem DwK.noTok {A : Amb} {W : Addr → Prop} {H : Hp} {xs : List (Key × V)} {ds : List (D × D)} (h : DwK K A W H xs ds) : isTok ds = false := by
  cases h with
  | nil => rfl
  | cons h r => rename_i k _ _ _ _; cases k <;> rfl
theorem Dw.stIs {A : Amb} {W : Addr → Prop} {H : Hp} {v : V} (h : Dw K A W H v dSt) : v = .ref A.d := by
  have g : ∀ {d : D}, Dw K A W H v d → d = dSt → v = .ref A.d := by
    intro d h e
    cases h <;> first | rfl | (cases e; done) | skip
    rename_i q
    have := q.noTok
    injection e with e
    rw [e] at this
    cases this
  exact g h rfl
/-- tuple, list of a list or a tuple -/
def dTupOf : List D → (D → Prop) → Prop
  | [.list xs], Q => Q (.tuple xs)
  | [.tuple xs], Q => Q (.tuple xs)
  | _, _ => False
def dListOf : List D → (D → Prop) → Prop
  | [.list xs], Q => Q (.list xs)
  | [.tuple xs], Q => Q (.list xs)
  | _, _ => False
theorem sim_tup : CallSim K mL (fun xs H Q => ∃ p ys, xs = [.ref p] ∧ ((SqL K H p ys ∧ ∀ l, H l = none → Q (.ref l) (upd H l (.tup ys))) ∨ (SqT K H p ys ∧ Q (.ref p) H))) dTupOf := by
  intro A W H rs xs ds Q0 Q R m q k
  unfold dTupOf at q
  split at q
  · cases m with
    | cons m1 m2 =>
      cases m2
      obtain ⟨a, ys, rfl, h, g⟩ := m1.lst
      exact ⟨a, ys, rfl, .inl ⟨SqL.of h, fun l hl => newT_go R k q g hl⟩⟩
  · cases m with
    | cons m1 m2 =>
      cases m2
      obtain ⟨a, ys, rfl, h, g⟩ := m1.tup
      exact ⟨a, ys, rfl, .inr ⟨h, flat_go R k q rfl (.tup h g)⟩⟩
  · exact q.elim
theorem sim_list : CallSim K mL (fun xs H Q => ∃ p ys, xs = [.ref p] ∧ (SqL K H p ys ∨ SqT K H p ys) ∧ ∀ l, H l = none → Q (.ref l) (upd H l (.lst ys))) dListOf := by
  intro A W H rs xs ds Q0 Q R m q k
  unfold dListOf at q
  split at q
  · cases m with
    | cons m1 m2 =>
      cases m2
      obtain ⟨a, ys, rfl, h, g⟩ := m1.lst
      exact ⟨a, ys, rfl, .inl (SqL.of h), fun l hl => new_go R k q g hl⟩
  · cases m with
    | cons m1 m2 =>
      cases m2
      obtain ⟨a, ys, rfl, h, g⟩ := m1.tup
      exact ⟨a, ys, rfl, .inr h, fun l hl => new_go R k q g hl⟩
  · exact q.elim
theorem ve_tuple (hg : Gl X "tuple") (hm : X.mg "tuple" = none) (ha : VAB X O [a] vs) (he : starEach [a] X.env = (false, eval a X.env) :: starEach [] X.env := by rfl) (hpl : (backTo pos (starEach [] X.env)).any (·.1) = false := by rfl) : VL X O (.Call (.Name "tuple" p) [a] [] pos) (vCB dTupOf vs) :=
  vm_callTy goodL call_tuple_of sim_tup hg hm (by decide +kernel) ha (he := he) (hpl := hpl)
theorem ve_list (hg : Gl X "list") (hm : X.mg "list" = none) (ha : VAB X O [a] vs) (he : starEach [a] X.env = (false, eval a X.env) :: starEach [] X.env := by rfl) (hpl : (backTo pos (starEach [] X.env)).any (·.1) = false := by rfl) : VL X O (.Call (.Name "list" p) [a] [] pos) (vCB dListOf vs) :=
  vm_callTy goodL call_list_of sim_list hg hm (by decide +kernel) ha (he := he) (hpl := hpl)
def dIntOf : List D → (D → Prop) → Prop
  | [.int i], Q => Q (.int i)
  | [.bool k], Q => Q (.int (if k then 1 else 0))
  | _, _ => False
def dMin2 : List D → (D → Prop) → Prop
  | [.int i, .int j], Q => Q (.int (if j < i then j else i))
  | _, _ => False
theorem ve_intOf (hg : Gl X "int") (hm : X.mg "int" = none) (ha : VAB X O [a] vs) (he : starEach [a] X.env = (false, eval a X.env) :: starEach [] X.env := by rfl) (hpl : (backTo pos (starEach [] X.env)).any (·.1) = false := by rfl) : VL X O (.Call (.Name "int" p) [a] [] pos) (vCB dIntOf vs) := by
  refine vm_callTy goodL call_int1 ?_ hg hm (by decide +kernel) ha (he := he) (hpl := hpl)
  intro A W H rs xs ds Q0 Q R m q k
  unfold dIntOf at q
  split at q
  · cases m with
    | cons m1 m2 =>
      cases m2
      exact .inl ⟨_, by rw [m1.int], flat_go R k q rfl (.int _)⟩
  · cases m with
    | cons m1 m2 =>
      cases m2
      exact .inr ⟨_, by rw [m1.bl], flat_go R k q rfl (.int _)⟩
  · exact q.elim
theorem ve_min2 (hc : X.calm = true) (hg : Gl X "min") (hm : X.mg "min" = none) (ha : VAB X O [a, b] vs) (he : starEach [a, b] X.env = (false, eval a X.env) :: starEach [b] X.env := by rfl) (hpl : (backTo pos (starEach [b] X.env)).any (·.1) = false := by rfl) : VL X O (.Call (.Name "min" p) [a, b] [] pos) (vCB dMin2 vs) := by
  refine vm_callB goodL (call_min2 hc) ?_ hg hm (by decide +kernel) ha (he := he) (hpl := hpl)
  intro A W H rs xs ds Q0 Q R m q k
  unfold dMin2 at q
  split at q
  · cases m with
    | cons m1 m2 =>
      cases m2 with
      | cons m2 m3 =>
        cases m3
        exact ⟨_, _, by rw [m1.int, m2.int], flat_go R k q rfl (.int _)⟩
  · exact q.elim
/-- isinstance(x, T), T a built-in type -/
def tyN : D → Option String
  | .none => some "NoneType"
  | .bool _ => some "bool"
  | .int _ => some "int"
  | .str _ => some "str"
  | .list _ => some "list"
  | .tuple _ => some "tuple"
  | .dict kvs => if isTok kvs = true then none else some "dict"
def isTy1 (T n : String) : Bool := n == T || (T == "int" && n == "bool")
def tyNames : List String := ["NoneType", "bool", "int", "str", "list", "tuple", "dict"]
def kitAllB (T : String) : Bool := tyNames.all fun n => L2.kitB n T == some (isTy1 T n)
def vIsi (T : String) (v : VT) : VT := fun ρ r Q => v ρ r fun d r1 => ∃ n, tyN d = some n ∧ Q (.bool (isTy1 T n)) r1
theorem tyx_of {A : Amb} {W : Addr → Prop} {Hs H : Hp} {v : V} {d : D} {n : String} (h : mB K A Hs W H v d) (e : tyN d = some n) : TyX K H v (.type n) := by
  rcases h with h | ⟨a, rfl, h, _⟩
  · cases h with
    | non => cases e; exact .base .non
    | bl b => cases e; exact .base (.bl b)
    | int i => cases e; exact .base (.int i)
    | str z => cases e; exact .base (.str z)
    | tup h q =>
      cases e
      rcases h with (h | ⟨o, h⟩) | ⟨o, its, n, h1, h2, _⟩
      · exact .base (.tup h)
      · exact .fTuple h
      · exact .kTuple h1 h2
    | lst w h q => cases e; exact .base (.lst h)
    | @dk a xs ds w h q =>
      have : n = "dict" := by
        by_cases hk : isTok ds = true
        · simp [tyN, hk] at e
        · simp [tyN, hk] at e
          exact e.symm
      subst this
      rcases h with h | ⟨o, h⟩
      · exact .base (.dK h)
      · exact .fDict h
    | st => cases e
    | scr => cases e
    | cell _ => cases e
    | obj _ => cases e
    | ins => cases e
  · refine h.cas (fun g => ?_) fun o xs ds z g q => ?_
    rotate_left
    · clear h
      subst z
      have : n = "dict" := by
        by_cases hk : isTok ds = true
        · simp [tyN, hk] at e
        · simp [tyN, hk] at e
          exact e.symm
      subst this
      exact .fDict g
    clear h
    cases g with
    | lst h q => cases e; exact .base (.lst h)
    | @dk xs ds h q =>
      have : n = "dict" := by
        by_cases hk : isTok ds = true
        · simp [tyN, hk] at e
        · simp [tyN, hk] at e
          exact e.symm
      subst this
      exact .base (.dK h)
    | ins => cases e
theorem tyN_mem {d : D} {n : String} (e : tyN d = some n) : n ∈ tyNames := by
  cases d <;> simp only [tyN] at e
  all_goals first | (cases e; decide) | skip
  split at e
  · cases e
  · cases e; decide
theorem ve_isi {T : Str} {Ts : String} (hk : kitAllB Ts = true) (hT : bootBuiltins T = some (.type Ts)) (hg : Gl X "isinstance") (hm : X.mg "isinstance" = none) (hgT : Gl X T) (hmT : X.mg T = none) (ha : VB X O a v1) {pT : Pos} (hn : T ≠ "__name__" := by decide) (hd : (T == ("__debug__" : Str)) = false := by decide)
    (hs1 : starEach (.Name T pT :: []) X.env = (false, eval (.Name T pT) X.env) :: starEach [] X.env := by rfl) (he : starEach [a, .Name T pT] X.env = (false, eval a X.env) :: starEach [.Name T pT] X.env := by rfl) (hpl : (backTo pos (starEach [.Name T pT] X.env)).any (·.1) = false := by rfl) :
    VL X O (.Call (.Name "isinstance" p) [a, .Name T pT] [] pos) (vIsi Ts v1) := by
  have ht : PE X (.Name T pT) (tC (.ty Ts)) := pe_bltn hgT hmT hT rfl hn hd
  refine PE.imp (pe_callB call_isi hg hm (by decide +kernel) (pa_cons ha (pa_cons ht pa_nil hs1) he) (he := he) (hpl := hpl)) fun σ H Q q => ?_
  obtain ⟨A, W0, H0, W, ρ, r, Q0, E, q, k⟩ := q
  refine ⟨A, W0, H0, W, ρ, r, _, E, q, fun d r1 q1 v H1 W1 x1 E1 m1 => ?_⟩
  obtain ⟨n, hn, q1⟩ := q1
  refine ⟨v, .ty Ts, .type n, .type Ts, _, rfl, .ty Ts, tyx_of m1 hn, kit_ty ?_, k _ r1 q1 _ H1 W1 x1 E1 (.inr ⟨rfl, .bl _⟩)⟩
  unfold kitAllB at hk
  have := List.all_eq_true.mp hk n (tyN_mem hn)
  exact eq_of_beq this
/-- all, any -/
def dAll : List D → (D → Prop) → Prop := fun ds Q => ∃ bs : List Bool, ds = [.list (bs.map .bool)] ∧ Q (.bool (bs.all id))
theorem DwA.bools {A : Amb} {W : Addr → Prop} {H : Hp} : ∀ {ys : List Bool} {xs : List V}, DwA K A W H xs (ys.map PyData.bool) → xs = ys.map V.bl
  | [], _, .nil => rfl
  | y :: ys, _, .cons h a => by cases h; rw [a.bools]; rfl
theorem ve_all (hc : X.calm = true) (hg : Gl X "all") (hm : X.mg "all" = none) (ha : VAB X O [a] vs) (he : starEach [a] X.env = (false, eval a X.env) :: starEach [] X.env := by rfl) (hpl : (backTo pos (starEach [] X.env)).any (·.1) = false := by rfl) : VL X O (.Call (.Name "all" p) [a] [] pos) (vCB dAll vs) := by
  refine vm_callB goodL (cr_all hc) ?_ hg hm (by decide +kernel) ha (he := he) (hpl := hpl)
  intro A W H rs xs ds Q0 Q R m q k
  obtain ⟨bs, rfl, q⟩ := q
  cases m with
  | cons m1 m2 =>
    cases m2
    obtain ⟨b, ys, rfl, h, g⟩ := m1.lst
    obtain rfl := g.bools
    exact ⟨b, bs, rfl, SqL.of h, flat_go R k q rfl (.bl _)⟩
end
end Sn
namespace Sn
open PySem PySem.Spec PyProof.Rows L2
section
variable {X : Cx} {M : Mode} {B O O' : List Nat} {x y z : Str} {i j l : Nat} {p pos apos cpos pt px py pz : Pos} {e a b c o : Expr} {es : List Expr} {vs : VTA} {v1 v2 v3 vo : VT}
variable {K : PySem.W.Frag}
def vPar2 (i j : Nat) (va : VTA) : VTS := fun N ρ r => va ρ r fun ds r1 => ∃ d e, ds = [d, e] ∧ N.nx ((ρ.set i (some d)).set j (some e)) r1
def vPar3 (i j l : Nat) (va : VTA) : VTS := fun N ρ r => va ρ r fun ds r1 => ∃ d e f, ds = [d, e, f] ∧ N.nx (((ρ.set i (some d)).set j (some e)).set l (some f)) r1
/-- a < b < c -/
def vChain (f g : D → D → (D → Prop) → Prop) (va vb vc : VT) : VT := fun ρ r Q => va ρ r fun d r1 => vb ρ r1 fun e r2 => f d e fun t => ∃ k, t = .bool k ∧ if k = true then vc ρ r2 fun h r3 => g e h fun z => Q z r3 else Q (.bool false) r2
theorem chain_lift {op op' : CmpOp} {f g : D → D → (D → Prop) → Prop} {r1 r2 : R2} {K : PySem.W.Frag} (s1 : OpSim K mL r1 f) (s2 : OpSim K mL r2 g) {σ : L2.St} {H : Hp} {Q : VK} (q : liftM K O mL (vChain f g v1 v2 v3) σ H Q) : tChain r1 r2 (liftM K O mB v1) (liftM K O mB v2) (liftM K O mB v3) σ H Q := by
  obtain ⟨A, W0, H0, W, ρ, rs, Q0, E, q, k⟩ := q
  refine ⟨A, W0, H0, W, ρ, rs, _, E, q, fun d ra q1 v H1 W1 x1 E1 m1 => ?_⟩
  refine ⟨A, W0, H0, W1, ρ, ra, _, E1, q1, fun d' rb q2 u H2 W2 x2 E2 m2 => ?_⟩
  refine s1 A W2 H2 rb v u d d' _ _ E2.res (goodB.st m1 x2 E1.res.av).any m2.any q2 fun z hz w H3 W3 x3 R3 m3 => ?_
  obtain ⟨kk, rfl, hz⟩ := hz
  have hw : w = .bl kk := by
    rcases m3 with ⟨m, _⟩ | ⟨_, m⟩
    · cases m
    · cases m; rfl
  refine ⟨kk, hw, ?_⟩
  have E3 := E2.ext x3 R3
  have x123 := (x1.trans x2).trans x3
  cases kk with
  | true =>
    refine iteT ⟨A, W0, H0, W3, ρ, rb, _, E3, hz, fun h rc q4 u4 H4 W4 x4 E4 m4 => ?_⟩
    refine s2 A W4 H4 rc u u4 d' h _ _ E4.res (goodB.st (goodB.st m2 x3 E2.res.av) x4 E3.res.av).any m4.any q4 fun t ht w H5 W5 x5 R5 m5 => ?_
    exact k t rc ht w H5 W5 ((x123.trans x4).trans x5) (E4.ext x5 R5) (m5.bk fun a ha => x123.al a (x4.al a ha))
  | false => exact iteF (k _ rb hz _ H3 W3 x123 E3 (.inr ⟨rfl, .bl _⟩))
theorem ve_chain {op op' : CmpOp} {f g : D → D → (D → Prop) → Prop} (c1 : CmpOk X op b f) (c2 : CmpOk X op' c g) (ha : VB X O a v1) (hb : VB X O b v2) (hc : VB X O c v3) (hm : lastMarks [op, op'] [b, c] = false := by with_unfolding_all rfl) : VL X O (.Compare a [op, op'] [b, c] pos) (vChain f g v1 v2 v3) := by
  obtain ⟨r1, h1, s1, _⟩ := c1
  obtain ⟨r2, h2, s2, _⟩ := c2
  exact PE.imp (pe_chain h1 h2 ha hb hc hm) fun _ _ _ q => chain_lift (op := op) (op' := op') s1 s2 q
def keyOfD : D → Option Key
  | .int i => some (.inl i)
  | .str z => some (.inr z)
  | _ => none
theorem keyOf_key (k : Key) : keyOfD (keyD k) = some k := by cases k <;> rfl
def lookD : List (D × D) → Key → Option D
  | [], _ => none
  | (k', d) :: r, k => if keyOfD k' = some k then some d else lookD r k
def putD : List (D × D) → Key → D → List (D × D)
  | [], k, d => [(keyD k, d)]
  | (k', d') :: r, k, d => if keyOfD k' = some k then (k', d) :: r else (k', d') :: putD r k d
theorem mB.kV {A : Amb} {W : Addr → Prop} {Hs H : Hp} {v : V} {d : D} {k : Key} (h : mB K A Hs W H v d) (e : keyOfD d = some k) : v = L2.kV k := by
  cases d <;> first | (cases e; done) | skip
  · cases e; rw [h.int]; rfl
  · cases e; rw [h.str]; rfl
theorem DwK.look {A : Amb} {W : Addr → Prop} {H : Hp} {k : Key} : ∀ {xs : List (Key × V)} {ds : List (D × D)}, DwK K A W H xs ds → (lookD ds k = none → valV xs k = none) ∧ ∀ d, lookD ds k = some d → ∃ v, valV xs k = some v ∧ Dw K A W H v d
  | _, _, .nil => ⟨fun _ => rfl, fun _ e => by cases e⟩
  | _, _, .cons (k := k') h r => by
    have ih := r.look (k := k)
    unfold lookD
    rw [keyOf_key]
    by_cases q : k' = k
    · subst q
      rw [if_pos rfl]
      refine ⟨fun e => (by cases e), fun d e => ?_⟩
      cases e
      exact ⟨_, valV_pos rfl, h⟩
    · rw [if_neg (by simpa using q)]
      have e : ∀ (v : V) (r : List (Key × V)), valV ((k', v) :: r) k = valV r k := fun v r => by simp [valV, List.find?_cons, q]
      rw [e]
      exact ih
def dGet (d k : D) (Q : D → Prop) : Prop := ∃ kvs key, d = .dict kvs ∧ isTok kvs = false ∧ keyOfD k = some key ∧ ∃ z, lookD kvs key = some z ∧ Q z
def dGet2 (d k e : D) (Q : D → Prop) : Prop := ∃ kvs key, d = .dict kvs ∧ isTok kvs = false ∧ keyOfD k = some key ∧ Q ((lookD kvs key).getD e)
def vGet2 (v1 v2 v3 : VT) : VT := fun ρ r Q => v1 ρ r fun d r1 => (∃ kvs, d = .dict kvs ∧ isTok kvs = false) ∧ v2 ρ r1 fun k r2 => v3 ρ r2 fun e r3 => dGet2 d k e fun z => Q z r3
/-- {k: v, ..} -/
theorem DwK.put {A : Amb} {W : Addr → Prop} {H : Hp} {k : Key} {v : V} {d : D} (h : Dw K A W H v d) : ∀ {xs : List (Key × V)} {ds : List (D × D)}, DwK K A W H xs ds → (xs.map (·.1)).Nodup → DwK K A W H (putK xs k v) (putD ds k d)
  | _, _, .nil, _ => .cons h .nil
  | _, _, .cons (k := k') (v := v') (vs := vs) h' r, nd => by
    rw [List.map_cons, List.nodup_cons] at nd
    have ih := r.put h (k := k) nd.2
    unfold putD
    rw [keyOf_key]
    by_cases q : k' = k
    · subst q
      rw [if_pos rfl]
      have e : putK ((k', v') :: vs) k' v = (k', v) :: vs := by
        unfold putK
        rw [if_pos (by simp)]
        simp only [List.map_cons, if_true]
        congr 1
        refine (List.map_congr_left fun p hp => ?_).trans (List.map_id vs)
        rw [if_neg fun z => nd.1 (by rw [← z]; exact List.mem_map_of_mem (f := fun x => x.1) hp)]
        rfl
      rw [e]
      exact .cons h r
    · rw [if_neg (by simpa using q)]
      have e : putK ((k', v') :: vs) k v = (k', v') :: putK vs k v := by
        unfold putK
        have : ((k', v') :: vs).any (fun kv => decide (kv.1 = k)) = vs.any fun kv => decide (kv.1 = k) := by simp [q]
        rw [this]
        split
        · simp [q]
        · rfl
      rw [e]
      exact .cons h' ih
def mergeD (kvs : List (D × D)) : List (Key × D) → List (D × D)
  | [] => kvs
  | (k, d) :: r => mergeD (putD kvs k d) r
def vPairs : List (VT × VT) → En → Rs → (List (D × D) → Rs → Prop) → Prop
  | [], _, r, Q => Q [] r
  | (vk, vv) :: t, ρ, r, Q => vk ρ r fun k r1 => vv ρ r1 fun d r2 => vPairs t ρ r2 fun ps r3 => Q ((k, d) :: ps) r3
def keysD : List (D × D) → Option (List (Key × D))
  | [] => some []
  | (k, d) :: r => match keyOfD k, keysD r with
    | some k, some r => some ((k, d) :: r)
    | _, _ => none
def dDispQ (ps : List (D × D)) (R : D → Prop) : Prop := ∃ kvs, keysD ps = some kvs ∧ kvs.length ≤ 15 ∧ R (.dict (mergeD [] kvs))
def vDisp (ts : List (VT × VT)) : VT := fun ρ r Q => vPairs ts ρ r fun ps r1 => dDispQ ps fun z => Q z r1
inductive DwP (K : PySem.W.Frag) (A : Amb) (W : Addr → Prop) (H : Hp) : List (V × V) → List (D × D) → Prop
  | nil : DwP K A W H [] []
  | cons {k v : V} {r : List (V × V)} {dk d : D} {t : List (D × D)} : Dw K A W H k dk → Dw K A W H v d → DwP K A W H r t → DwP K A W H ((k, v) :: r) ((dk, d) :: t)
theorem DwP.keys {A : Amb} {W : Addr → Prop} {H : Hp} : ∀ {vs : List (V × V)} {ps : List (D × D)} {kvs : List (Key × D)}, DwP K A W H vs ps → keysD ps = some kvs → ∃ ws : List (Key × V), vs = ws.map (fun kv => (L2.kV kv.1, kv.2)) ∧ ws.length = kvs.length ∧ DwK K A W H ws (kvs.map fun p => (keyD p.1, p.2))
  | _, _, kvs, .nil, e => by cases e; exact ⟨[], rfl, rfl, .nil⟩
  | _, _, kvs, .cons (dk := dk) (t := t) hk hv r, e => by
    unfold keysD at e
    split at e
    · rename_i k rest e1 e2
      cases e
      obtain ⟨ws, rfl, hl, hw⟩ := r.keys e2
      refine ⟨(k, _) :: ws, ?_, by rw [List.length_cons, List.length_cons, hl], .cons hv hw⟩
      rw [List.map_cons, mB.kV (Hs := H) (.inl hk) e1]
    · cases e
def dFmt (d : D) (Q : D → Prop) : Prop := (∃ y : Str, d = .str y ∧ y.length ≤ sizeLine ∧ Q (.str y)) ∨ ∃ i : Int, d = .int i ∧ i.natAbs.log2 < 1920 ∧ Q (.str (toString i))
def vJs : List VT → Str → En → Rs → (Str → Rs → Prop) → Prop
  | [], acc, _, r, Q => Q acc r
  | t :: ts, acc, ρ, r, Q => t ρ r fun d r1 => ∃ y : Str, d = .str y ∧ (acc ++ y).length ≤ sizeLine ∧ vJs ts (acc ++ y) ρ r1 Q
end
end Sn
namespace Sn
open PySem PySem.Spec PyProof.Rows L2
section
variable {ρ : En} {r : Rs} {Q : D → Rs → Prop} {QB : Bool → Rs → Prop} {QA : List D → Rs → Prop} {N : VN} {s t : VTS} {v va vb vc v1 v2 v3 : VT} {c c1 c2 : VTT} {vs : VTA} {i j l : Nat} {d e : D} {R : D → Prop}
theorem i_seq (h : s ⟨fun ρ' r' => t N ρ' r', N.rt, N.bk, N.ct⟩ ρ r) : vSeq s t N ρ r := h
theorem i_set (h : v ρ r fun d r1 => N.nx (ρ.set i (some d)) r1) : vSet i v N ρ r := h
theorem i_setO (h : v ρ r fun d r1 => isMut d = true ∧ N.nx (ρ.set i (some d)) r1) : vSetO i v N ρ r := h
theorem i_drop (h : v ρ r fun _ r1 => N.nx ρ r1) : vDrop v N ρ r := h
theorem i_ret (h : v ρ r fun d r1 => N.rt d r1) : vRet v N ρ r := h
theorem i_retN (h : N.rt .none r) : vRetN N ρ r := h
theorem i_ifS (h : c ρ r fun b r1 => if b = true then s N ρ r1 else t N ρ r1) : vIfS c s t N ρ r := h
theorem i_break (h : N.bk ρ r) : vBreak N ρ r := h
theorem i_cont (h : N.ct ρ r) : vCont N ρ r := h
theorem i_next (h : N.nx ρ r) : vNext N ρ r := h
theorem i_append {ds : List D} (e : ρ[i]? = some (some (.list ds))) (h : v ρ r fun d r1 => ds.length < sizeLine ∧ N.nx (ρ.set i (some (.list (ds ++ [d])))) r1) : vAppend i v N ρ r := ⟨ds, e, h⟩
theorem i_extend {ds : List D} (e : ρ[i]? = some (some (.list ds))) (h : v ρ r fun d r1 => ∃ es, d = .list es ∧ ds.length + es.length ≤ sizeLine ∧ N.nx (ρ.set i (some (.list (ds ++ es)))) r1) : vExtend i v N ρ r := ⟨ds, e, h⟩
theorem i_par2 (h : vs ρ r fun ds r1 => ∃ d e, ds = [d, e] ∧ N.nx ((ρ.set i (some d)).set j (some e)) r1) : vPar2 i j vs N ρ r := h
theorem i_par3 (h : vs ρ r fun ds r1 => ∃ d e f, ds = [d, e, f] ∧ N.nx (((ρ.set i (some d)).set j (some e)).set l (some f)) r1) : vPar3 i j l vs N ρ r := h
theorem i_asgT {t : Tgt} (h : v ρ r fun d r1 => vBind t d ρ fun ρ' => N.nx ρ' r1) : vAsgT t v N ρ r := h
theorem i_var (h : ρ[i]? = some (some d)) (q : Q d r) : vVar i ρ r Q := ⟨d, h, q⟩
theorem i_c (q : Q d r) : vC d ρ r Q := q
theorem i_op {f : D → D → (D → Prop) → Prop} (h : va ρ r fun d r1 => vb ρ r1 fun e r2 => f d e fun z => Q z r2) : vOp f va vb ρ r Q := h
theorem i_un {f : D → (D → Prop) → Prop} (h : va ρ r fun d r1 => f d fun z => Q z r1) : vUn f va ρ r Q := h
theorem i_nil (h : QA [] r) : vNil ρ r QA := h
theorem i_cons (h : v ρ r fun d r1 => vs ρ r1 fun ds r2 => QA (d :: ds) r2) : vCons v vs ρ r QA := h
theorem i_tup (h : vs ρ r fun ds r1 => ds.length ≤ sizeLine ∧ Q (.tuple ds) r1) : vTup vs ρ r Q := h
theorem i_lst (h : vs ρ r fun ds r1 => ds.length ≤ sizeLine ∧ Q (.list ds) r1) : vLst vs ρ r Q := h
theorem i_cb {f : List D → (D → Prop) → Prop} (h : vs ρ r fun ds r1 => f ds fun z => Q z r1) : vCB f vs ρ r Q := h
theorem i_if (h : c ρ r fun b r1 => if b = true then va ρ r1 Q else vb ρ r1 Q) : vIf c va vb ρ r Q := h
theorem i_andV (h : va ρ r fun x r1 => ∃ c, x = .bool c ∧ if c = true then vb ρ r1 Q else Q (.bool false) r1) : vAndV va vb ρ r Q := h
theorem i_orV (h : va ρ r fun x r1 => ∃ c, x = .bool c ∧ if c = true then Q (.bool true) r1 else vb ρ r1 Q) : vOrV va vb ρ r Q := h
theorem i_notV (h : va ρ r fun x r1 => ∃ c, x = .bool c ∧ Q (.bool (!c)) r1) : vNotV va ρ r Q := h
theorem i_b (h : va ρ r fun x r1 => ∃ c, x = .bool c ∧ QB c r1) : vB va ρ r QB := h
theorem i_and (h : c1 ρ r fun c r1 => if c = true then c2 ρ r1 QB else QB false r1) : vAnd c1 c2 ρ r QB := h
theorem i_or (h : c1 ρ r fun c r1 => if c = true then QB true r1 else c2 ρ r1 QB) : vOr c1 c2 ρ r QB := h
theorem i_not (h : c1 ρ r fun c r1 => QB (!c) r1) : vNot c1 ρ r QB := h
theorem i_call {vf : VF} (h : vs ρ r fun ds r1 => vf ds r1 Q) : vCall vf vs ρ r Q := h
theorem i_mt {ty : D → Prop} {f : D → List D → (D → Prop) → Prop} (h : v ρ r fun d r1 => ty d ∧ vs ρ r1 fun ds r2 => f d ds fun z => Q z r2) : vMt ty f v vs ρ r Q := h
theorem i_sl {lo hi : VTO} (h : v ρ r fun d r1 => lo ρ r1 fun l r2 => hi ρ r2 fun u r3 => dSl d l u fun z => Q z r3) : vSl v lo hi ρ r Q := h
theorem i_noPart {Q : Option Int → Rs → Prop} (h : Q none r) : vNoPart ρ r Q := h
theorem i_part {Q : Option Int → Rs → Prop} (h : v ρ r fun d r1 => ∃ i, d = .int i ∧ Q (some i) r1) : vPart v ρ r Q := h
theorem i_isi {T : String} (h : v ρ r fun d r1 => ∃ n, tyN d = some n ∧ Q (.bool (isTy1 T n)) r1) : vIsi T v ρ r Q := h
theorem i_chain {f g : D → D → (D → Prop) → Prop} (h : va ρ r fun d r1 => vb ρ r1 fun e r2 => f d e fun t => ∃ k, t = .bool k ∧ if k = true then vc ρ r2 fun h r3 => g e h fun z => Q z r3 else Q (.bool false) r2) : vChain f g va vb vc ρ r Q := h
theorem i_get2 (h : v1 ρ r fun d r1 => (∃ kvs, d = .dict kvs ∧ isTok kvs = false) ∧ v2 ρ r1 fun k r2 => v3 ρ r2 fun e r3 => dGet2 d k e fun z => Q z r3) : vGet2 v1 v2 v3 ρ r Q := h
theorem i_disp {ts : List (VT × VT)} (h : vPairs ts ρ r fun ps r1 => dDispQ ps fun z => Q z r1) : vDisp ts ρ r Q := h
theorem i_pnil {QP : List (D × D) → Rs → Prop} (h : QP [] r) : vPairs [] ρ r QP := h
theorem i_pcons {QP : List (D × D) → Rs → Prop} {vk vv : VT} {ts : List (VT × VT)} (h : vk ρ r fun k r1 => vv ρ r1 fun d r2 => vPairs ts ρ r2 fun ps r3 => QP ((k, d) :: ps) r3) : vPairs ((vk, vv) :: ts) ρ r QP := h
theorem i_jnil {QJ : Str → Rs → Prop} {acc : Str} (h : QJ acc r) : vJs [] acc ρ r QJ := h
theorem i_jcons {QJ : Str → Rs → Prop} {acc : Str} {ts : List VT} (h : v ρ r fun d r1 => ∃ y : Str, d = .str y ∧ (acc ++ y).length ≤ sizeLine ∧ vJs ts (acc ++ y) ρ r1 QJ) : vJs (v :: ts) acc ρ r QJ := h
theorem i_for {vi : VTI} {t : Tgt} (h : vi ρ r fun ds r1 => vLoop t s ds N ρ r1) : vFor vi t s N ρ r := h
theorem i_seqI (h : v ρ r fun d r1 => dSeq d fun ds => QA ds r1) : vSeqI v ρ r QA := h
theorem i_rng1 (h : vs ρ r fun ds r1 => ∃ j, ds = [.int j] ∧ -(2 ^ 62) ≤ j ∧ j < 2 ^ 62 ∧ QA (rngD 0 j.toNat) r1) : vRng1 vs ρ r QA := h
theorem i_rng2 (h : vs ρ r fun ds r1 => ∃ i j, ds = [.int i, .int j] ∧ (-(2 ^ 62) ≤ i ∧ i < 2 ^ 62 ∧ -(2 ^ 62) ≤ j ∧ j < 2 ^ 62) ∧ QA (rngD i (j - i).toNat) r1) : vRng2 vs ρ r QA := h
theorem i_lc {ws : List Nat} {vi : VTI} {t : Tgt} (h : vi ρ r fun ds r1 => ds.length ≤ sizeLine ∧ vLcGo t c v (wipeE ρ ws) ds r1 fun zs r2 => Q (.list zs) r2) : vLc ws vi t c v ρ r Q := h
theorem i_dseqL {ds : List D} {Q : List D → Prop} (h : Q ds) : dSeq (.list ds) Q := h
theorem i_dseqT {ds : List D} {Q : List D → Prop} (h : Q ds) : dSeq (.tuple ds) Q := h
theorem i_dseqS {z : Str} {Q : List D → Prop} (h : Q (strD z)) : dSeq (.str z) Q := h
theorem i_bind1 {Q : En → Prop} (h : Q (ρ.set i (some d))) : vBind (.nm i) d ρ Q := h
theorem i_bind2 {Q : En → Prop} {d e : D} (h : Q ((ρ.set i (some d)).set j (some e))) : vBind (.tp [i, j]) (.tuple [d, e]) ρ Q := ⟨_, rfl, rfl, h⟩
theorem i_bind3 {Q : En → Prop} {d e f : D} (h : Q (((ρ.set i (some d)).set j (some e)).set l (some f))) : vBind (.tp [i, j, l]) (.tuple [d, e, f]) ρ Q := ⟨_, rfl, rfl, h⟩
theorem i_exb {P : Bool → Prop} {b : Bool} (h : P b) : ∃ c, (.bool b : D) = .bool c ∧ P c := ⟨b, rfl, h⟩
theorem i_exi {P : Int → Prop} {i : Int} (h : P i) : ∃ c, (.int i : D) = .int c ∧ P c := ⟨i, rfl, h⟩
theorem i_exs {P : Str → Prop} {i : Str} (h : P i) : ∃ c, (.str i : D) = .str c ∧ P c := ⟨i, rfl, h⟩
theorem i_ex2 {P : D → D → Prop} {d e : D} (h : P d e) : ∃ x y, [d, e] = [x, y] ∧ P x y := ⟨d, e, rfl, h⟩
theorem i_ex3 {P : D → D → D → Prop} {d e f : D} (h : P d e f) : ∃ x y z, [d, e, f] = [x, y, z] ∧ P x y z := ⟨d, e, f, rfl, h⟩
theorem i_tt {A B : Prop} (h : A) : if true = true then A else B := by rw [if_pos rfl]; exact h
theorem i_ff {A B : Prop} (h : B) : if false = true then A else B := by rw [if_neg (by decide)]; exact h
theorem i_ntt {A B : Prop} (h : B) : if (!true) = true then A else B := by rw [if_neg (by decide)]; exact h
theorem i_nff {A B : Prop} (h : A) : if (!false) = true then A else B := i_tt h
theorem i_ty {n : String} {d : D} {P : String → Prop} (h : tyN d = some n) (q : P n) : ∃ n, tyN d = some n ∧ P n := ⟨n, h, q⟩
theorem shp {d : D} (h : d.canLay0 = true) (h2 : d.depth ≤ 64) : SeqAt.shaped d = true := by unfold SeqAt.shaped; rw [h]; simpa using h2
theorem i_eqT {x y : Str} (h : x = y) (q : R (.bool true)) : dEq false (.str x) (.str y) R := ⟨.inr (.inl rfl), by
  have e : PyData.eqv (.str x) (.str y) = true := by simp [PyData.eqv, h]
  rw [if_neg (by decide), e]
  exact q⟩
theorem i_eqF {x y : Str} (h : x ≠ y) (q : R (.bool false)) : dEq false (.str x) (.str y) R := ⟨.inr (.inl rfl), by
  have e : PyData.eqv (.str x) (.str y) = false := by simp [PyData.eqv, h]
  rw [if_neg (by decide), e]
  exact q⟩
theorem i_neT {x y : Str} (h : x = y) (q : R (.bool false)) : dEq true (.str x) (.str y) R := ⟨.inr (.inl rfl), by
  have e : PyData.eqv (.str x) (.str y) = true := by simp [PyData.eqv, h]
  rw [if_pos rfl, e]
  exact q⟩
theorem i_neF {x y : Str} (h : x ≠ y) (q : R (.bool true)) : dEq true (.str x) (.str y) R := ⟨.inr (.inl rfl), by
  have e : PyData.eqv (.str x) (.str y) = false := by simp [PyData.eqv, h]
  rw [if_pos rfl, e]
  exact q⟩
theorem i_eqI {x y : Int} (q : R (.bool (decide (x = y)))) : dEq false (.int x) (.int y) R := ⟨.inr (.inl rfl), by
  have e : PyData.eqv (.int x) (.int y) = decide (x = y) := by simp [PyData.eqv, Bool.beq_eq_decide_eq]
  rw [if_neg (by decide), e]
  exact q⟩
theorem i_neI {x y : Int} (q : R (.bool (!decide (x = y)))) : dEq true (.int x) (.int y) R := ⟨.inr (.inl rfl), by
  have e : PyData.eqv (.int x) (.int y) = decide (x = y) := by simp [PyData.eqv, Bool.beq_eq_decide_eq]
  rw [if_pos rfl, e]
  exact q⟩
theorem i_eqD {d e : D} (h1 : SeqAt.shaped d = true) (h2 : SeqAt.shaped e = true) (q : R (.bool (PyData.eqv d e))) : dEq false d e R := ⟨.inl ⟨h1, h2⟩, by rw [if_neg (by decide)]; exact q⟩
theorem i_neD {d e : D} (h1 : SeqAt.shaped d = true) (h2 : SeqAt.shaped e = true) (q : R (.bool (!PyData.eqv d e))) : dEq true d e R := ⟨.inl ⟨h1, h2⟩, by rw [if_pos rfl]; exact q⟩
theorem i_neNil {ds : List D} (q : R (.bool (!ds.isEmpty))) : dEq true (.list ds) (.list []) R := ⟨.inr (.inr ⟨ds, rfl, rfl⟩), by
  have e : PyData.eqv (.list ds) (.list []) = ds.isEmpty := by cases ds <;> simp [PyData.eqv, PyData.eqvAll]
  rw [if_pos rfl, e]
  exact q⟩
theorem i_cmpI {g : Int → Int → Bool} {s : Str → Str → Bool} {x y : Int} (q : R (.bool (g x y))) : dCmp g s (.int x) (.int y) R := q
theorem i_I0 {g : Int → Int → D} {x y : Int} (q : R (g x y)) : dI0 g (.int x) (.int y) R := q
theorem i_addI {x y : Int} (q : R (.int (x + y))) : dAdd (.int x) (.int y) R := q
theorem i_addS {x y : Str} (h : x.length + y.length ≤ sizeLine) (q : R (.str (x ++ y))) : dAdd (.str x) (.str y) R := ⟨h, q⟩
theorem i_addL {x y : List D} (h : x.length + y.length ≤ sizeLine) (q : R (.list (x ++ y))) : dAdd (.list x) (.list y) R := ⟨h, q⟩
theorem i_isNt (h : d = .none) (q : R (.bool true)) : dIsN false d .none R := ⟨rfl, by rw [h]; exact q⟩
theorem i_isNf (h : isNoD d = false) (q : R (.bool false)) : dIsN false d .none R := ⟨rfl, by rw [h, if_neg (by decide)]; exact q⟩
theorem i_notNt (h : d = .none) (q : R (.bool false)) : dIsN true d .none R := ⟨rfl, by rw [h]; exact q⟩
theorem i_notNf (h : isNoD d = false) (q : R (.bool true)) : dIsN true d .none R := ⟨rfl, by rw [h, if_pos rfl]; exact q⟩
theorem i_sz0 {A : Prop} (h : A) : ([] : List D).length ≤ sizeLine ∧ A := ⟨Nat.zero_le _, h⟩
theorem i_sz1 {A : Prop} (h : A) : [d].length ≤ sizeLine ∧ A := ⟨by rw [sizeLine_eq]; simp, h⟩
theorem i_sz2 {A : Prop} (h : A) : [d, e].length ≤ sizeLine ∧ A := ⟨by rw [sizeLine_eq]; simp, h⟩
theorem i_sz3 {A : Prop} {f : D} (h : A) : [d, e, f].length ≤ sizeLine ∧ A := ⟨by rw [sizeLine_eq]; simp, h⟩
theorem i_mutL {A : Prop} {ds : List D} (h : A) : isMut (.list ds) = true ∧ A := ⟨rfl, h⟩
theorem i_mutD {A : Prop} {ds : List (D × D)} (h : A) : isMut (.dict ds) = true ∧ A := ⟨rfl, h⟩
theorem i_ixT {ds : List D} {i : Int} (h : atI ds i = some d) (q : R d) : dIx (.tuple ds) (.int i) R := ⟨d, h, q⟩
theorem i_ixL {ds : List D} {i : Int} (h : atI ds i = some d) (q : R d) : dIx (.list ds) (.int i) R := ⟨d, h, q⟩
theorem i_slL {ds : List D} {lo hi : Option Int} (q : R (.list (cutL ds lo hi))) : dSl (.list ds) lo hi R := q
theorem i_slT {ds : List D} {lo hi : Option Int} (q : R (.tuple (cutL ds lo hi))) : dSl (.tuple ds) lo hi R := q
theorem i_lenL {ds : List D} (q : R (.int ds.length)) : dLen [.list ds] R := q
theorem i_lenT {ds : List D} (q : R (.int ds.length)) : dLen [.tuple ds] R := q
theorem i_tupL {ds : List D} (q : R (.tuple ds)) : dTupOf [.list ds] R := q
theorem i_tupT {ds : List D} (q : R (.tuple ds)) : dTupOf [.tuple ds] R := q
theorem i_listL {ds : List D} (q : R (.list ds)) : dListOf [.list ds] R := q
theorem i_listT {ds : List D} (q : R (.list ds)) : dListOf [.tuple ds] R := q
theorem i_fmtS {z : Str} (h : z.length ≤ sizeLine) (q : R (.str z)) : dFmt (.str z) R := .inl ⟨z, rfl, h, q⟩
/-- a promise: a text for data -/
def vfPg (ok : D → Prop) (f : D → Str) : VF := fun ds r Q => ∃ d, ds = [d] ∧ ok d ∧ Q (.str (f d)) r
theorem i_pg {ok : D → Prop} {f : D → Str} (h : ok d) (q : Q (.str (f d)) r) : vfPg ok f [d] r Q := ⟨d, rfl, h, q⟩
theorem i_inTt {ds : List D} (h : (flatD d && ds.all flatD) = true) (e : inD d ds = true) (q : R (.bool true)) : dIn false d (.tuple ds) R := ⟨by simpa using h, by rw [if_neg (by decide), e]; exact q⟩
theorem i_inTf {ds : List D} (h : (flatD d && ds.all flatD) = true) (e : inD d ds = false) (q : R (.bool false)) : dIn false d (.tuple ds) R := ⟨by simpa using h, by rw [if_neg (by decide), e]; exact q⟩
theorem i_inLt {ds : List D} (h : (flatD d && ds.all flatD) = true) (e : inD d ds = true) (q : R (.bool true)) : dIn false d (.list ds) R := ⟨.inl (by simpa using h), by rw [if_neg (by decide), e]; exact q⟩
theorem i_inLf {ds : List D} (h : (flatD d && ds.all flatD) = true) (e : inD d ds = false) (q : R (.bool false)) : dIn false d (.list ds) R := ⟨.inl (by simpa using h), by rw [if_neg (by decide), e]; exact q⟩
theorem i_ninTt {ds : List D} (h : (flatD d && ds.all flatD) = true) (e : inD d ds = true) (q : R (.bool false)) : dIn true d (.tuple ds) R := ⟨by simpa using h, by rw [if_pos rfl, e]; exact q⟩
theorem i_ninTf {ds : List D} (h : (flatD d && ds.all flatD) = true) (e : inD d ds = false) (q : R (.bool true)) : dIn true d (.tuple ds) R := ⟨by simpa using h, by rw [if_pos rfl, e]; exact q⟩
theorem i_tyS {A : Prop} {z : Str} (h : A) : tyD "str" (.str z) ∧ A := ⟨True.intro, h⟩
theorem i_tyL {A : Prop} {ds : List D} (h : A) : tyD "list" (.list ds) ∧ A := ⟨True.intro, h⟩
def dispOk (ps : List (D × D)) : Bool := match keysD ps with
  | some kvs => decide (kvs.length ≤ 15) && decide ((kvs.map (·.1)).Nodup)
  | none => false
theorem keysD_eq : ∀ {ps : List (D × D)} {kvs : List (Key × D)}, keysD ps = some kvs → ps = kvs.map fun p => (keyD p.1, p.2)
  | [], kvs, h => by cases h; rfl
  | (k, d) :: ps, kvs, h => by
    unfold keysD at h
    split at h
    · rename_i k' r e1 e2
      cases h
      rw [List.map_cons, ← keysD_eq e2]
      congr 1
      cases k <;> first | (cases e1; done) | (cases e1; rfl)
    · cases h
theorem putD_new {k : Key} {d : D} : ∀ {kvs : List (Key × D)}, k ∉ kvs.map (·.1) → putD (kvs.map fun p => (keyD p.1, p.2)) k d = (kvs ++ [(k, d)]).map fun p => (keyD p.1, p.2)
  | [], _ => rfl
  | (k', d') :: r, h => by
    simp only [List.map_cons, List.mem_cons, not_or] at h
    rw [List.map_cons]
    unfold putD
    rw [keyOf_key, if_neg (by simpa using fun e => h.1 e.symm), putD_new h.2]
    rfl
theorem mergeD_new : ∀ {es kvs : List (Key × D)}, ((kvs ++ es).map (·.1)).Nodup → mergeD (kvs.map fun p => (keyD p.1, p.2)) es = (kvs ++ es).map fun p => (keyD p.1, p.2)
  | [], kvs, _ => by rw [List.append_nil]; rfl
  | (k, d) :: es, kvs, h => by
    unfold mergeD
    rw [putD_new (fun m => by
      rw [List.map_append, List.nodup_append] at h
      exact h.2.2 k m k (by simp) rfl), mergeD_new (by rw [List.append_assoc]; exact h), List.append_assoc]
    rfl
theorem i_dispQ {ps : List (D × D)} (h : dispOk ps = true) (q : R (.dict ps)) : dDispQ ps R := by
  unfold dispOk at h
  split at h
  · rename_i kvs e
    simp only [Bool.and_eq_true, decide_eq_true_eq] at h
    refine ⟨kvs, e, h.1, ?_⟩
    have := mergeD_new (es := kvs) (kvs := []) (by simpa using h.2)
    rw [List.nil_append] at this
    rw [show mergeD [] kvs = ps from this.trans (keysD_eq e).symm]
    exact q
  · cases h
/-- the value at a text's key -/
def dLook (kvs : List (D × D)) (x : Str) (R : D → Prop) : Prop := ∃ z, lookD kvs (.inr x) = some z ∧ R z
theorem i_dget {kvs : List (D × D)} {x : Str} (h : isTok kvs = false) (q : dLook kvs x R) : dGet (.dict kvs) (.str x) R := ⟨kvs, .inr x, rfl, h, rfl, q⟩
theorem i_lookT {kvs : List (D × D)} {x y : Str} (h : x = y) (q : R d) : dLook ((.str x, d) :: kvs) y R := ⟨d, by simp [lookD, keyOfD, h], q⟩
theorem i_lookF {kvs : List (D × D)} {x y : Str} (h : x ≠ y) (q : dLook kvs y R) : dLook ((.str x, d) :: kvs) y R := by
  obtain ⟨z, e, q⟩ := q
  exact ⟨z, by simp [lookD, keyOfD, h, e], q⟩
def dLook2 (kvs : List (D × D)) (x : Str) (e : D) (R : D → Prop) : Prop := R ((lookD kvs (.inr x)).getD e)
theorem i_dget2 {kvs : List (D × D)} {x : Str} (h : isTok kvs = false) (q : dLook2 kvs x e R) : dGet2 (.dict kvs) (.str x) e R := ⟨kvs, .inr x, rfl, h, rfl, q⟩
theorem i_look2T {kvs : List (D × D)} {x y : Str} (h : x = y) (q : R d) : dLook2 ((.str x, d) :: kvs) y e R := by
  unfold dLook2
  simpa [lookD, keyOfD, h] using q
theorem i_look2F {kvs : List (D × D)} {x y : Str} (h : x ≠ y) (q : dLook2 kvs y e R) : dLook2 ((.str x, d) :: kvs) y e R := by
  unfold dLook2 at q ⊢
  simpa [lookD, keyOfD, h] using q
theorem i_look2N {y : Str} (q : R e) : dLook2 [] y e R := q
theorem i_exdict {kvs : List (D × D)} {A : Prop} (h : isTok kvs = false) (q : A) : (∃ k, (.dict kvs : D) = .dict k ∧ isTok k = false) ∧ A := ⟨⟨kvs, rfl, h⟩, q⟩
theorem i_lt {n : Nat} {A : Prop} (h : n < sizeLine) (a : A) : n < sizeLine ∧ A := ⟨h, a⟩
theorem i_le {n : Nat} {A : Prop} (h : n ≤ sizeLine) (a : A) : n ≤ sizeLine ∧ A := ⟨h, a⟩
theorem i_neNilT {ds : List D} (h : SeqAt.shaped (.tuple ds) = true) (q : R (.bool (!ds.isEmpty))) : dEq true (.tuple ds) (.tuple []) R := by
  have e : PyData.eqv (.tuple ds) (.tuple []) = ds.isEmpty := by cases ds <;> simp [PyData.eqv, PyData.eqvAll]
  refine i_neD h rfl ?_
  rw [e]
  exact q
theorem i_dT {P A B : Prop} [Decidable P] (h : P) (a : A) : if decide P = true then A else B := by rw [decide_eq_true h]; exact i_tt a
theorem i_dF {P A B : Prop} [Decidable P] (h : ¬ P) (a : B) : if decide P = true then A else B := by rw [decide_eq_false h]; exact i_ff a
theorem i_dNT {P A B : Prop} [Decidable P] (h : P) (a : B) : if (!decide P) = true then A else B := by rw [decide_eq_true h]; exact i_ff a
theorem i_dNF {P A B : Prop} [Decidable P] (h : ¬ P) (a : A) : if (!decide P) = true then A else B := by rw [decide_eq_false h]; exact i_tt a
theorem i_loop {t : Tgt} {ds : List D} (I : Nat → En → Rs → Prop) (h0 : I 0 ρ r) (hs : ∀ i d ρ r (nx : En → Rs → Prop), ds[i]? = some d → I i ρ r → (∀ ρ' r', I (i + 1) ρ' r' → nx ρ' r') → vBind t d ρ fun ρ' => s ⟨nx, N.rt, N.nx, nx⟩ ρ' r) (hd : ∀ ρ r, I ds.length ρ r → N.nx ρ r) : vLoop t s ds N ρ r := by
  suffices h : ∀ (n k : Nat) (ρ : En) (r : Rs), k + n = ds.length → I k ρ r → vLoop t s (ds.drop k) N ρ r from h ds.length 0 ρ r (Nat.zero_add _) h0
  intro n
  induction n with
  | zero =>
    intro k ρ r e hi
    have e : k = ds.length := e
    subst e
    rw [List.drop_length]
    exact hd ρ r hi
  | succ n ih =>
    intro k ρ r e hi
    have hk : k < ds.length := by omega
    rw [List.drop_eq_getElem_cons hk]
    exact hs k _ ρ r _ (List.getElem?_eq_getElem hk) hi fun ρ' r' hi' => ih (k + 1) ρ' r' (by omega) hi'
/-- a comprehension whose items change nothing -/
theorem i_go {t : Tgt} {ds : List D} (f : D → D) (h : ∀ d, d ∈ ds → ∀ R : D → Rs → Prop, R (f d) r → vBind t d ρ fun ρ' => v ρ' r R) (k : QA (ds.map f) r) : vLcGo t vYes v ρ ds r QA := by
  induction ds generalizing QA with
  | nil => exact k
  | cons d ds ih =>
    have mono : ∀ {P P' : En → Prop}, (∀ ρ, P ρ → P' ρ) → vBind t d ρ P → vBind t d ρ P' := by
      intro P P' hP q
      cases t with
      | nm i => exact hP _ q
      | tp is => obtain ⟨ds, e, hl, q⟩ := q; exact ⟨ds, e, hl, hP _ q⟩
    show vBind t d ρ fun ρ' => vYes ρ' r fun b r1 => if b = true then v ρ' r1 fun z r2 => vLcGo t vYes v ρ ds r2 fun zs r3 => QA (z :: zs) r3 else vLcGo t vYes v ρ ds r1 QA
    refine mono (P := fun ρ' => v ρ' r fun z r2 => vLcGo t vYes v ρ ds r2 fun zs r3 => QA (z :: zs) r3) ?_ (h d (List.mem_cons_self ..) _ ?_)
    · intro ρ1 q
      simp only [vYes, if_true]
      exact q
    exact ih (fun d hd => h d (List.mem_cons_of_mem _ hd)) k
end
end Sn
namespace Sn
open PySem PySem.Spec PyProof.Rows L2
section
variable {X : Cx}
/-- the cases of a match, asked of the value v -/
structure PCs (X : Cx) (cs : List MatchCase) (t : V → TS) : Prop where
  run : ∀ (first : Bool) (pins : List (Addr × Obj)) (s : Shared) (σ : L2.St) (H : Hp) (D : Ends) (v : V) (u : Value), Inv X pins σ H s → RelV v u → t v D σ H → wpAny (model X.prog X.w) X.A (matchCases cs X.env u first) (SP X pins D) X.xe s
end
end Sn
namespace Sn
open PySem PySem.Spec PyProof.Rows L2
def vcEnd : D → VTS := fun _ N ρ r => N.nx ρ r
def vcInt (n : Int) (s : VTS) (t : D → VTS) : D → VTS := fun d N ρ r => ∃ i, d = .int i ∧ if decide (i = n) = true then s N ρ r else t d N ρ r
def vcIntG (n : Int) (c : VTT) (s : VTS) (t : D → VTS) : D → VTS := fun d N ρ r => ∃ i, d = .int i ∧ if decide (i = n) = true then c ρ r fun b r1 => if b = true then s N ρ r1 else t d N ρ r1 else t d N ρ r
def vcStr (z : Str) (s : VTS) (t : D → VTS) : D → VTS := fun d N ρ r => ∃ y, d = .str y ∧ if decide (y = z) = true then s N ρ r else t d N ρ r
def vMatch (v : VT) (t : D → VTS) : VTS := fun N ρ r => v ρ r fun d r1 => t d N ρ r1
def vAsgStar (i j : Nat) (v : VT) : VTS := fun N ρ r => v ρ r fun d r1 => ∃ x xs, d = .tuple (x :: xs) ∧ N.nx ((ρ.set i (some x)).set j (some (.list xs))) r1
section
variable {X : Cx} {M : Mode} {B O O' : List Nat} {e g : Expr} {body sts : List Stmt} {st : Stmt} {rest cs : List MatchCase} {s1 : VTS} {t : D → VTS} {v1 : VT} {c1 : VTT} {pos : Pos} {i j : Nat}
theorem PCs.imp {t t' : V → TS} (h : PCs X cs t) (k : ∀ v D σ H, t' v D σ H → t v D σ H) : PCs X cs t' := ⟨fun first pins s σ H D v u I r q => h.run first pins s σ H D v u I r (k v D σ H q)⟩
end
end Sn
namespace Sn
open PySem PySem.Spec PyProof.Rows L2
section
variable {ρ : En} {r : Rs} {Q : D → Rs → Prop} {N : VN} {s : VTS} {t : D → VTS} {v : VT} {c : VTT} {d : D} {i j : Nat}
theorem i_match (h : v ρ r fun d r1 => t d N ρ r1) : vMatch v t N ρ r := h
theorem i_cEnd (h : N.nx ρ r) : vcEnd d N ρ r := h
theorem i_cIntT {k n : Int} (e : decide (k = n) = true) (h : s N ρ r) : vcInt n s t (.int k) N ρ r := ⟨k, rfl, by rw [if_pos e]; exact h⟩
theorem i_cIntF {k n : Int} (e : decide (k = n) = false) (h : t (.int k) N ρ r) : vcInt n s t (.int k) N ρ r := ⟨k, rfl, by rw [if_neg (by rw [e]; decide)]; exact h⟩
theorem i_cGT {k n : Int} (e : decide (k = n) = true) (h : c ρ r fun b r1 => if b = true then s N ρ r1 else t (.int k) N ρ r1) : vcIntG n c s t (.int k) N ρ r := ⟨k, rfl, by rw [if_pos e]; exact h⟩
theorem i_cGF {k n : Int} (e : decide (k = n) = false) (h : t (.int k) N ρ r) : vcIntG n c s t (.int k) N ρ r := ⟨k, rfl, by rw [if_neg (by rw [e]; decide)]; exact h⟩
theorem i_cStrT {y z : Str} (e : y = z) (h : s N ρ r) : vcStr z s t (.str y) N ρ r := ⟨y, rfl, by rw [if_pos (by simpa using e)]; exact h⟩
theorem i_cStrF {y z : Str} (e : y ≠ z) (h : t (.str y) N ρ r) : vcStr z s t (.str y) N ρ r := ⟨y, rfl, by rw [if_neg (by simpa using e)]; exact h⟩
theorem i_star (h : v ρ r fun d r1 => ∃ x xs, d = .tuple (x :: xs) ∧ N.nx ((ρ.set i (some x)).set j (some (.list xs))) r1) : vAsgStar i j v N ρ r := h
theorem i_exStar {x : D} {xs : List D} {P : D → List D → Prop} (h : P x xs) : ∃ y ys, (.tuple (x :: xs) : D) = .tuple (y :: ys) ∧ P y ys := ⟨x, xs, rfl, h⟩
theorem ll_emp : (Str.empty : Str).length = 0 := rfl
theorem i_exL {A : List D} {P : List D → Prop} (h : P A) : ∃ es, (.list A : D) = .list es ∧ P es := ⟨A, rfl, h⟩
theorem i_pT {A B : Prop} (h : A) : if True then A else B := by rw [if_pos True.intro]; exact h
theorem i_pF {A B : Prop} (h : B) : if False then A else B := by rw [if_neg id]; exact h
/-- what isinstance says of kinds -/
theorem ty_tt : isTy1 "tuple" "tuple" = true := by decide +kernel
theorem ty_ts : isTy1 "tuple" "str" = false := by decide +kernel
theorem ty_ti : isTy1 "tuple" "int" = false := by decide +kernel
theorem ty_tl : isTy1 "tuple" "list" = false := by decide +kernel
theorem ty_ss : isTy1 "str" "str" = true := by decide +kernel
theorem ty_st : isTy1 "str" "tuple" = false := by decide +kernel
theorem i_allT {ds : List D} {R : D → Prop} (q : R (.bool true)) : dAll [.list (ds.map fun _ => .bool true)] R := by
  refine ⟨List.replicate ds.length true, ?_, ?_⟩
  · rw [List.map_const', List.map_replicate]
  · have e : (List.replicate ds.length true).all id = true := by
      rw [List.all_eq_true]
      intro x hx
      rw [List.mem_replicate] at hx
      rw [hx.2]
      rfl
    rw [e]
    exact q
/-- a promise: true of good data -/
def vfT (ok : D → Prop) : VF := fun ds r Q => ∃ d, ds = [d] ∧ ok d ∧ Q (.bool true) r
theorem i_okT {ok : D → Prop} (h : ok d) (q : Q (.bool true) r) : vfT ok [d] r Q := ⟨d, rfl, h, q⟩
end
end Sn
namespace Sn
open PySem PySem.Spec PyProof.Rows L2
/-- J walks the data ds, as long as nothing but new things come -/
def WalksX (K : PySem.W.Frag) (A : Amb) (W : Addr → Prop) (H : Hp) (J : It) (ds : List D) : Prop := ∃ (G : Hp → Prop) (Y : Nat → Hp → V → Hp → Prop), Walk J ds.length G Y ∧ (∀ W' H', Ext K A W H W' H' → G H') ∧
  ∀ i H1 W1 x H2 d, ds[i]? = some d → Ext K A W H W1 H1 → Y i H1 x H2 → Same H1 H2 ∧ Dw K A W1 H2 x d
def liftIX (K : PySem.W.Frag) (O : List Nat) (vi : VTI) : TI := fun σ H R => ∃ (A : Amb) (W0 : Addr → Prop) (H0 : Hp) (W : Addr → Prop) (ρ : En) (r : Rs) (Q0 : List D → Rs → Prop), Env K A W0 H0 O W σ H ρ r ∧ vi ρ r Q0 ∧
  ∀ ds r', Q0 ds r' → ∀ J H' W', Ext K A W H W' H' → Env K A W0 H0 O W' σ H' ρ r' → WalksX K A W' H' J ds → R J H'
def VIX (X : Cx) (O : List Nat) (tg e : Expr) (vi : VTI) : Prop := PI X tg e (liftIX X.K O vi)
section
variable {X : Cx} {O : List Nat} {elt tg iter : Expr} {ifs : List Expr} {scope : Scope} {own : List (Str × Nat)} {pos : Pos} {vi : VTI} {t : Tgt} {c : VTT} {v : VT} {e : Expr} {v1 : VT}
/-- .. over a list that may be owned -/
theorem vi_seqB (h : VB X O e v1) : VIX X O tg e (vSeqI v1) := PI.imp (pi_seq h) fun σ H R q => by
  obtain ⟨A, W0, H0, W, ρ, rs, Q0, E, q, k⟩ := q
  refine ⟨A, W0, H0, W, ρ, rs, _, E, q, fun d r1 q1 v H1 W1 x1 E1 m1 => ?_⟩
  rcases m1 with m1 | ⟨a, rfl, h1, u⟩
  · cases m1 with
    | tup h1 h2 =>
      rename_i a xs ds
      refine .inr (.inl ⟨a, rfl, ⟨xs, h1⟩, k ds r1 q1 _ H1 W1 x1 E1 ⟨_, _, ?_, fun W' H' s => s.tp _ _ h1, fun i H1 W1 x H2 d e s y => walks_at h2 e (s.stp E1.res.av) y⟩⟩)
      rw [← h2.len]
      exact walk_tup
    | lst w h1 h2 =>
      rename_i a xs ds
      refine .inl ⟨a, rfl, ⟨xs, .inl (.inl h1)⟩, k ds r1 q1 _ H1 W1 x1 E1 ⟨fun H => SqL X.K H a xs, _, ?_, fun W' H' s => SqL.of ((s.stp E1.res.av).wl _ _ w h1), fun i H1 W1 x H2 d e s y => walks_at h2 e (s.stp E1.res.av) y⟩⟩
      rw [← h2.len]
      exact walk_list
    | str z =>
      refine .inr (.inr ⟨z, rfl, k _ r1 q1 _ H1 W1 x1 E1 ⟨fun _ => True, fun i H v H' => H' = H ∧ ∃ c, z.cps[i]? = some c ∧ v = .str ⟨#[c]⟩, ?_, fun W' H' s => trivial, fun i H1 W1 x H2 d e s y => ?_⟩⟩)
      · have : (strD z).length = z.cps.size := by simp [strD]
        rw [this]
        exact walk_str
      · obtain ⟨rfl, c, hc, rfl⟩ := y
        have : d = .str ⟨#[c]⟩ := by
          simp only [strD, List.getElem?_map] at e
          rw [Array.getElem?_toList, hc] at e
          simpa using e.symm
        rw [this]
        exact ⟨same_rfl, .str _⟩
    | _ => exact absurd q1 id
  · refine h1.cas (fun g => ?_) fun _ _ _ z _ _ => by rw [z] at q1; exact absurd q1 id
    clear h1
    cases g with
    | lst h1 h2 =>
      rename_i xs ds
      refine .inl ⟨a, rfl, ⟨xs, .inl (.inl h1)⟩, k ds r1 q1 _ H1 W1 x1 E1 ⟨fun H => SqL X.K H a xs, _, ?_, fun W' H' s => SqL.of (s.fr _ _ u h1), fun i H1 W1 x H2 d e s y => walks_at h2 e (s.stp E1.res.av) y⟩⟩
      rw [← h2.len]
      exact walk_list
    | _ => exact absurd q1 id
theorem lc_liftX {vs : List Nat} {σ : L2.St} {H : Hp} {Q : VK} (hO : t.ok O) (hv : t.In vs) (hW : ∀ v ∈ vs, Rep O v) (q : liftM X.K O mL (vLc vs vi t c v) σ H Q) : tLc (liftIX X.K O vi) (gOf X.K t) (liftT X.K O c) (liftM X.K O mF v) vs σ H Q := by
  obtain ⟨A, W0, H0, W, ρ, r, Q0, E, q, k⟩ := q
  refine ⟨A, W0, H0, W, ρ, r, _, E, q, fun ds r1 q1 J H1 W1 x1 E1 wk => ?_⟩
  obtain ⟨hlen, q1⟩ := q1
  intro p hp
  obtain ⟨G, Y, w, hG, hY⟩ := wk
  have hU : ¬ A.U p := E1.res.uNew hp
  refine lc_it w (fun i H' => ∃ r' W' acc zs, Ext X.K A W1 H1 W' H' ∧ Res X.K A W' H' r' ∧ H' p = some (.lst acc) ∧ acc.length ≤ i ∧ DwA X.K A W' H' acc zs ∧ ¬ W' p ∧ vLcGo t c v (wipeE ρ vs) (ds.drop i) r' fun zs' r2 => Q0 (.list (zs ++ zs')) r2) ?_ ?_ ?_ ?_
  · exact ⟨r1, W1, [], [], Ext.new hp, E1.res.same (same_new hp), upd_same, Nat.le_refl _, .nil, fun z => E1.res.wa p z hp, by rw [List.drop_zero]; exact q1⟩
  · rintro i H' _ ⟨r', W', acc, zs, x', R', _⟩
    exact hG W' H' x'
  · rintro i y H' H2 hi ⟨r', W', acc, zs, x', R', hacc, hl, hz, nW, q2⟩ hy
    obtain ⟨sm, hd⟩ := hY i H' W' y H2 ds[i] (List.getElem?_eq_getElem hi) x' hy
    rw [List.drop_eq_getElem_cons hi] at q2
    have E2 := ((E1.ext x' R').same sm).wipe vs hW
    refine bind_goW E2 hO hv hd q2 fun ρ3 σ3 q3 e3 E3 => ⟨by rw [e3, wipe_wipe], ?_⟩
    refine ⟨A, W0, H0, W', ρ3, r', _, E3, q3, fun b r4 q4 H4 W4 x4 E4 => ?_⟩
    have x02 : Ext X.K A W1 H1 W' H2 := x'.trans (Ext.same sm)
    have h2 : H2 p = some (.lst acc) := sm _ _ hacc
    have h4 : H4 p = some (.lst acc) := x4.fr _ _ hU h2
    have n4 : ¬ W4 p := fun z => (x4.wn p z).elim nW fun z => by rw [z] at h2; cases h2
    cases b with
    | true =>
      refine iteT ⟨A, W0, H0, W4, ρ3, r4, _, E4, q4, fun z r5 q5 u H5 W5 x5 E5 m5 => ?_⟩
      have h5 : H5 p = some (.lst acc) := x5.fr _ _ hU h4
      have n5 : ¬ W5 p := fun z => (x5.wn p z).elim n4 fun z => by rw [z] at h4; cases h4
      refine ⟨acc, h5, by omega, r5, W5, acc ++ [u], zs ++ [z], ((x02.trans x4).trans x5).updNew hp h5 lstNT, E5.res.updN n5 hU h5 lstNT, upd_same, by rw [List.length_append]; show acc.length + 1 ≤ i + 1; omega, ?_, n5, ?_⟩
      · have hz5 : DwA X.K A W5 H5 acc zs := ((hz.ext (Ext.same sm) R'.av).ext x4 E3.res.av).ext x5 E4.res.av
        exact (hz5.app (.cons m5 .nil)).mov (fun _ e => e) (fun b u w e => by rw [upd_ne (fun z => n5 (by rw [← z]; exact w))]; exact e) fun b xs e => sqT_put h5 lstNT e
      · simpa using q5
    | false =>
      refine iteF ⟨r4, W4, acc, zs, x02.trans x4, E4.res, h4, by omega, ((hz.ext (Ext.same sm) R'.av).ext x4 E3.res.av), n4, q4⟩
  · rintro H' ⟨r', W', acc, zs, x', R', hacc, hl, hz, nW, q2⟩
    rw [List.drop_length] at q2
    have q2 : Q0 (.list (zs ++ [])) r' := q2
    rw [List.append_nil] at q2
    exact k _ r' q2 _ H' W' (x1.trans x') (E1.ext x' R') (.inl ⟨rfl, p, rfl, .lst hacc hz, nW, hU, x1.al p hp⟩)
theorem vl_lcX (hc : X.calm = true) (hN : X.N.Nodup) (hi : VIX X O tg iter vi) (ok : BlkOk X.N X.env.scope scope own)
    (hg : ∀ (s : Shared) (H : Hp) (C : Addr) (cl : List (Str × Addr)) (fp : List Addr), PG (X.blk s H scope (compEnvC scope cl C X.env) fp) tg (gOf X.K t)) (ht : ∀ (s : Shared) (H : Hp) (C : Addr) (cl : List (Str × Addr)) (fp : List Addr), PTs (X.blk s H scope (compEnvC scope cl C X.env) fp) ifs (liftT X.K O c))
    (he : ∀ (s : Shared) (H : Hp) (C : Addr) (cl : List (Str × Addr)) (fp : List Addr), VE (X.blk s H scope (compEnvC scope cl C X.env) fp) O elt v) (hO : t.ok O := by decide) (hv : t.In (own.map (·.2)) := by decide) (hW : ∀ v ∈ own.map (·.2), Rep O v := by decide) (hs : ∀ x, foldedSetIterable iter X.env x = pure x := by intro _; rfl) :
    VL X O (.ListComp elt [⟨tg, iter, ifs, 0⟩] scope pos) (vLc (own.map (·.2)) vi t c v) := PE.imp (pe_lc (te := liftM X.K O mF v) hc hN hi ok hg ht he hs) fun _ _ _ q => lc_liftX hO hv hW q
end
section
variable {K : PySem.W.Frag} {A : Amb} {W0 W1 : Addr → Prop} {H0 H1 : Hp} {O O' : List Nat} {σ : L2.St} {ρ : En} {r1 : Rs} {d : D} {i : Nat} {a : Addr}
theorem Env.setNew (E1 : Env K A W0 H0 O W1 σ H1 ρ r1) (n : i ∈ O') (nr : Rep O' i) (h1 : ∀ j, j ∈ O' ↔ j = i ∨ j ∈ O) (h : Own K A W1 H1 a d) (w : ¬ W1 a) (u : ¬ A.U a) (h0 : H0 a = none) (fr : ∀ (j : Nat) (e : D), ρ[j]? = some (some e) → Fre O j → σ[j]? ≠ some (some (.ref a))) : Env K A W0 H0 O' W1 (σ.set i (some (.ref a))) H1 (ρ.set i (some d)) r1 := by
  have nrO : Rep O i := ⟨fun z => nr.1 ((h1 _).mpr (.inr z)), fun z => nr.2.1 ((h1 _).mpr (.inr z)), nr.2.2⟩
  have E2 := (E1.drop i none nrO).addO n nr h1
  have E4 := E2.setO (i := i) (a := a) (d := d) n nr h w u (h0) (fun j e z1 z2 z3 => by
    have jl : j ≠ i := fun y => by
      subst y
      have hl : j < ρ.length := by
        have := (List.getElem?_eq_some_iff.mp z1).1
        rwa [List.length_set] at this
      rw [List.getElem?_set_self hl] at z1
      cases z1
    rw [List.getElem?_set_ne (Ne.symm jl)] at z1 z3
    exact fr j e z1 ⟨((h1 j).mp z2.1).resolve_left jl, fun y => z2.2 ((h1 _).mpr (.inr y))⟩ z3)
  rw [List.set_set, List.set_set] at E4
  exact E4
end
def vPar2O (i j : Nat) (va vb : VT) : VTS := fun N ρ r => va ρ r fun d r1 => vb ρ r1 fun e r2 => isMut d = true ∧ N.nx ((ρ.set i (some d)).set j (some e)) r2
def vInsert (i : Nat) (v1 v2 : VT) : VTS := fun N ρ r => ∃ ds, ρ[i]? = some (some (.list ds)) ∧ v1 ρ r fun k r1 => v2 ρ r1 fun d r2 => ∃ n : Int, k = .int n ∧ ds.length < sizeLine ∧ 0 ≤ n ∧ n < 2 ^ 63 ∧ N.nx (ρ.set i (some (.list (ds.take n.toNat ++ [d] ++ ds.drop n.toNat)))) r2
def rInsert : V → List V → Hp → VK → Prop := fun x vs H Q => ∃ (l : Addr) (xs : List V) (i : Int) (y : V), x = .ref l ∧ vs = [.int i, y] ∧ H l = some (.lst xs) ∧ xs.length < sizeLine ∧ 0 ≤ i ∧ i < 2 ^ 63 ∧
    Q .non (upd H l (.lst (xs.take i.toNat ++ [y] ++ xs.drop i.toNat)))
section
variable {X : Cx} {M : Mode} {B O O' : List Nat} {a b e : Expr} {i j : Nat} {x y : Str} {px py pt pos : Pos} {va vb v1 v2 : VT}
theorem mt_insertV : MtR X "list.insert" rInsert := mt_insert
theorem vs_insert (h : PE X e (tBM X.K "list" rInsert (tVar i) (tCons (liftM X.K O mF v1) (tCons (liftM X.K O mF v2) tNil)))) (n : Fre O i := by decide) (hs : swapsWith e none pos.line X.env = pure false := by rfl) : VS X M B O O (.Expr e pos) (vInsert i v1 v2) := PS.imp (ps_expr h hs) fun D σ H q => by
  obtain ⟨A, W0, H0, W, ρ, r, N, E, ⟨ds, hd, q⟩, kn, kr, kb, kc⟩ := q
  obtain ⟨a, h1, h2, h3, h4, h5⟩ := E.own i _ hd n
  have ha : ∃ xs, H a = some (.lst xs) := by cases h2 with | lst h _ => exact ⟨_, h⟩
  obtain ⟨xs0, ha⟩ := ha
  refine ⟨_, h1, .inl ⟨rfl, _, SqL.of ha⟩, A, W0, H0, W, ρ, r, _, E, q, fun k r1 q1 u H1 W1 x1 E1 m1 => ?_⟩
  refine ⟨A, W0, H0, W1, ρ, r1, _, E1, q1, fun d r2 q2 v H2 W2 x2 E2 m2 => ?_⟩
  obtain ⟨k, rfl, hz, h0, h63, q2⟩ := q2
  cases m1
  obtain ⟨b, g1, g2, _⟩ := E2.own i _ hd n
  rw [h1] at g1
  cases g1
  cases g2 with
  | lst g g' =>
    rename_i xs
    refine ⟨a, xs, k, v, rfl, rfl, g, by rw [g'.len]; exact hz, h0, h63, ?_⟩
    have st := E2.mutS (o' := .lst (xs.take k.toNat ++ [v] ++ xs.drop k.toNat)) n hd h1
    refine kn _ r2 q2 σ _ W2 (E2.mut n hd h1 fun _ => ?_) (((x1.trans x2).stp E.res.av).trans st)
    exact .lst upd_same ((((g'.take _).app (.cons m2 .nil)).app (g'.drop _)).stp st)
end
section
variable {ρ : En} {r : Rs} {N : VN} {v1 v2 : VT} {i j : Nat}
theorem i_insert {ds : List D} (e : ρ[i]? = some (some (.list ds))) (h : v1 ρ r fun k r1 => v2 ρ r1 fun d r2 => ∃ n : Int, k = .int n ∧ ds.length < sizeLine ∧ 0 ≤ n ∧ n < 2 ^ 63 ∧ N.nx (ρ.set i (some (.list (ds.take n.toNat ++ [d] ++ ds.drop n.toNat)))) r2) : vInsert i v1 v2 N ρ r := ⟨ds, e, h⟩
theorem i_par2O (h : v1 ρ r fun d r1 => v2 ρ r1 fun e r2 => isMut d = true ∧ N.nx ((ρ.set i (some d)).set j (some e)) r2) : vPar2O i j v1 v2 N ρ r := h
end
end Sn
namespace Sn
open PySem PySem.Spec PyProof.Rows L2
def vPar2FO (i j : Nat) (va vb : VT) : VTS := fun N ρ r => va ρ r fun d r1 => vb ρ r1 fun e r2 => isMut e = true ∧ N.nx ((ρ.set i (some d)).set j (some e)) r2
def vPar2OO (i j : Nat) (va vb : VT) : VTS := fun N ρ r => va ρ r fun d r1 => vb ρ r1 fun e r2 => isMut d = true ∧ isMut e = true ∧ N.nx ((ρ.set i (some d)).set j (some e)) r2
/-- x.append(y.pop(k)) -/
def vAppPop (i j : Nat) (v : VT) : VTS := fun N ρ r => ∃ ds es, ρ[i]? = some (some (.list ds)) ∧ ρ[j]? = some (some (.list es)) ∧ v ρ r fun k r1 => ∃ (n : Nat) (d : D), k = .int n ∧ es[n]? = some d ∧ n < 2 ^ 62 ∧ ds.length < sizeLine ∧ N.nx ((ρ.set j (some (.list (es.eraseIdx n)))).set i (some (.list (ds ++ [d])))) r1
section
variable {K : PySem.W.Frag} {A : Amb} {W : Addr → Prop} {H : Hp}
theorem DwA.eraseIdx : ∀ {vs : List V} {ds : List D}, DwA K A W H vs ds → ∀ n, DwA K A W H (vs.eraseIdx n) (ds.eraseIdx n)
  | _, _, .nil, _ => .nil
  | _, _, .cons h a, 0 => a
  | _, _, .cons h a, n + 1 => .cons h (DwA.eraseIdx a n)
end
section
variable {X : Cx} {M : Mode} {B O O' : List Nat} {a b e : Expr} {i j : Nat} {x y : Str} {px py pt pos : Pos} {va vb v1 v2 : VT}
theorem vs_par2OO {kt k2 pt2} (hc : X.calm = true) (hN : X.N.Nodup) (hi : X.N[i]? = some x) (hj : X.N[j]? = some y) (hij : i ≠ j)
    (hx : X.env.scope.names.lookup x = some .local) (hy : X.env.scope.names.lookup y = some .local) (ha : VL X O a va) (hb : VL X O b vb)
    (hw : swappedStores [.Tuple [.Name x px, .Name y py] kt pt] (.Tuple [a, b] k2 pt2) X.env = pure (some [x, y])) (n : j ∈ O') (h1 : ∀ k, k ∈ O' ↔ k = j ∨ k ∈ i :: O) (nr : Rep O' j := by decide) (nri : Rep (i :: O) i := by decide)
    (hse : starEach [a, b] X.env = (false, eval a X.env) :: starEach [b] X.env := by rfl) (hse2 : starEach [b] X.env = (false, eval b X.env) :: starEach [] X.env := by rfl)
    (hs : swapsWithSole [.Tuple [.Name x px, .Name y py] kt pt] (.Tuple [a, b] k2 pt2) pos.line X.env = pure false := by rfl) :
    VS X M B O O' (.Assign [.Tuple [.Name x px, .Name y py] kt pt] (.Tuple [a, b] k2 pt2) pos) (vPar2OO i j va vb) := PS.imp (ps_par hc hN hi hj hij hx hy (pa_cons ha (pa_cons hb pa_nil hse2) hse) hw hs) fun D σ H q => by
  obtain ⟨A, W0, H0, W, ρ, r, N, E, q, kn, kr, kb, kc⟩ := q
  refine ⟨A, W0, H0, W, ρ, r, _, E, q, fun d r1 q1 v H1 W1 x1 E1 m1 => ?_⟩
  refine ⟨A, W0, H0, W1, ρ, r1, _, E1, q1, fun f r2 q2 u H2 W2 x2 E2 m2 => ?_⟩
  refine ⟨_, _, rfl, ?_⟩
  have s1 : ∀ c, v = .ref c → Own X.K A W1 H1 c d → H1 c ≠ none := fun c _ h => h.isSome
  have m3 := mL.st m1 x2 E1.res.av
  rcases m1 with ⟨_, c, rfl, hc1, _, _, _⟩ | ⟨m, _⟩
  · rcases m3 with ⟨_, c', e', h, w, uu, nn⟩ | ⟨m, _⟩
    · cases e'
      rcases m2 with ⟨_, l, rfl, h', w', uu', nn'⟩ | ⟨m', _⟩
      · have E3 : Env X.K A W0 H0 (i :: O) W2 (σ.set i (some (.ref c))) H2 (ρ.set i (some d)) r2 := E2.setNew (O' := i :: O) (by simp) nri (by simp) h w uu (E.h0 nn) (E.fresh nn)
        have hcl : c ≠ l := fun z => hc1.isSome (by rw [z]; exact nn')
        refine kn _ r2 q2.2.2 _ H2 W2 (E3.setNew n nr h1 h' w' uu' (E1.h0 nn') fun k g e1 e2 e3 => ?_) ((x1.trans x2).stp E.res.av)
        by_cases hk : k = i
        · subst hk
          have hl : k < σ.length := by
            have := (List.getElem?_eq_some_iff.mp e3).1
            rwa [List.length_set] at this
          rw [List.getElem?_set_self hl] at e3
          cases e3
          exact hcl rfl
        · rw [List.getElem?_set_ne (Ne.symm hk)] at e1 e3
          exact E1.fresh nn' k g e1 ⟨(List.mem_cons.mp e2.1).resolve_left hk, fun y => e2.2 (List.mem_cons_of_mem _ y)⟩ e3
      · rw [q2.2.1] at m'
        cases m'
    · rw [q2.1] at m
      cases m
  · rw [q2.1] at m
    cases m
end
section
variable {ρ : En} {r : Rs} {N : VN} {v1 v2 v : VT} {i j : Nat}
theorem i_par2FO (h : v1 ρ r fun d r1 => v2 ρ r1 fun e r2 => isMut e = true ∧ N.nx ((ρ.set i (some d)).set j (some e)) r2) : vPar2FO i j v1 v2 N ρ r := h
theorem i_par2OO (h : v1 ρ r fun d r1 => v2 ρ r1 fun e r2 => isMut d = true ∧ isMut e = true ∧ N.nx ((ρ.set i (some d)).set j (some e)) r2) : vPar2OO i j v1 v2 N ρ r := h
theorem i_appPop {ds es : List D} (e1 : ρ[i]? = some (some (.list ds))) (e2 : ρ[j]? = some (some (.list es))) (h : v ρ r fun k r1 => ∃ (n : Nat) (d : D), k = .int n ∧ es[n]? = some d ∧ n < 2 ^ 62 ∧ ds.length < sizeLine ∧ N.nx ((ρ.set j (some (.list (es.eraseIdx n)))).set i (some (.list (ds ++ [d])))) r1) : vAppPop i j v N ρ r := ⟨ds, es, e1, e2, h⟩
end
end Sn
namespace Sn
open PySem PySem.Spec PyProof.Rows L2
inductive ArgV where
  | f (v : VT)
  | l (v : VT)
  | m (i : Nat)
def vArgs : List ArgV → VTA
  | [], _, r, Q => Q [] r
  | .f v :: as, ρ, r, Q => v ρ r fun d r1 => vArgs as ρ r1 fun ds r2 => Q (d :: ds) r2
  | .l v :: as, ρ, r, Q => v ρ r fun d r1 => vArgs as ρ r1 fun ds r2 => Q (d :: ds) r2
  | .m i :: as, ρ, r, Q => ∃ d, ρ[i]? = some (some d) ∧ vArgs as ρ r fun ds r2 => Q (d :: ds) r2
inductive ArgsR (K : PySem.W.Frag) (A : Amb) (W : Addr → Prop) (H : Hp) (σ : L2.St) (ρ : En) : List ArgV → List V → List D → Prop
  | nil : ArgsR K A W H σ ρ [] [] []
  | f {t : VT} {as : List ArgV} {v : V} {vs : List V} {d : D} {ds : List D} : Dw K A W H v d → ArgsR K A W H σ ρ as vs ds → ArgsR K A W H σ ρ (.f t :: as) (v :: vs) (d :: ds)
  | l {t : VT} {as : List ArgV} {v : V} {vs : List V} {d : D} {ds : List D} : mB K A H W H v d → ArgsR K A W H σ ρ as vs ds → ArgsR K A W H σ ρ (.l t :: as) (v :: vs) (d :: ds)
  | m {i : Nat} {as : List ArgV} {v : V} {vs : List V} {d : D} {ds : List D} : σ[i]? = some (some v) → ρ[i]? = some (some d) → ArgsR K A W H σ ρ as vs ds → ArgsR K A W H σ ρ (.m i :: as) (v :: vs) (d :: ds)
def liftArgs (K : PySem.W.Frag) (O : List Nat) (as : List ArgV) : TA := fun σ H Q => ∃ (A : Amb) (W0 : Addr → Prop) (H0 : Hp) (W : Addr → Prop) (ρ : En) (r : Rs) (Q0 : List D → Rs → Prop), Env K A W0 H0 O W σ H ρ r ∧ vArgs as ρ r Q0 ∧
  ∀ ds r', Q0 ds r' → ∀ vs H' W', Ext K A W H W' H' → Env K A W0 H0 O W' σ H' ρ r' → ArgsR K A W' H' σ ρ as vs ds → Q vs H'
def VAs (X : Cx) (O : List Nat) (es : List Expr) (as : List ArgV) : Prop := PA X es (liftArgs X.K O as)
section
variable {K : PySem.W.Frag} {A : Amb} {W0 W W' W2 : Addr → Prop} {H0 H H' H2 : Hp} {O : List Nat} {σ : L2.St} {ρ : En} {r r' : Rs} {v : V} {d : D} {i : Nat} {a : Addr}
theorem Env.val (E : Env K A W0 H0 O W σ H ρ r) (e : ρ[i]? = some (some d)) : ∃ v, σ[i]? = some (some v) := by
  by_cases h0 : i + 2000 ∈ O
  · obtain ⟨v, h, _⟩ := E.rdo i d e h0
    exact ⟨v, h⟩
  by_cases hi : i ∈ O
  · obtain ⟨a, h, _⟩ := E.own i d e ⟨hi, h0⟩
    exact ⟨_, h⟩
  · obtain ⟨v, h, _⟩ := E.var i d e hi
    exact ⟨v, h⟩
theorem ArgsR.st (x : Ext K A W H W' H') (av : ∀ a, W a → ¬ A.U a) : ∀ {as : List ArgV} {vs : List V} {ds : List D}, ArgsR K A W H σ ρ as vs ds → ArgsR K A W' H' σ ρ as vs ds
  | _, _, _, .nil => .nil
  | _, _, _, .f h a => .f (h.ext x av) (a.st x av)
  | _, _, _, .l h a => .l (goodB.st h x av).any (a.st x av)
  | _, _, _, .m h e a => .m h e (a.st x av)
end
section
variable {X : Cx} {O : List Nat} {e : Expr} {es : List Expr} {v1 : VT} {as : List ArgV} {i : Nat}
theorem vas_nil : VAs X O [] [] := PA.imp pa_nil fun σ H Q q => by
  obtain ⟨A, W0, H0, W, ρ, r, Q0, E, q, k⟩ := q
  exact k [] r q [] H W .refl E .nil
theorem vas_f (h : VE X O e v1) (hs : VAs X O es as) (hst : starEach (e :: es) X.env = (false, eval e X.env) :: starEach es X.env := by rfl) : VAs X O (e :: es) (.f v1 :: as) := PA.imp (pa_cons h hs hst) fun σ H Q q => by
  obtain ⟨A, W0, H0, W, ρ, r, Q0, E, q, k⟩ := q
  refine ⟨A, W0, H0, W, ρ, r, _, E, q, fun d r1 q1 v H1 W1 x1 E1 m1 => ?_⟩
  refine ⟨A, W0, H0, W1, ρ, r1, _, E1, q1, fun ds r2 q2 us H2 W2 x2 E2 m2 => ?_⟩
  exact k (d :: ds) r2 q2 (v :: us) H2 W2 (x1.trans x2) E2 (.f (goodF.st m1 x2 E1.res.av) m2)
theorem vas_l (h : VB X O e v1) (hs : VAs X O es as) (hst : starEach (e :: es) X.env = (false, eval e X.env) :: starEach es X.env := by rfl) : VAs X O (e :: es) (.l v1 :: as) := PA.imp (pa_cons h hs hst) fun σ H Q q => by
  obtain ⟨A, W0, H0, W, ρ, r, Q0, E, q, k⟩ := q
  refine ⟨A, W0, H0, W, ρ, r, _, E, q, fun d r1 q1 v H1 W1 x1 E1 m1 => ?_⟩
  refine ⟨A, W0, H0, W1, ρ, r1, _, E1, q1, fun ds r2 q2 us H2 W2 x2 E2 m2 => ?_⟩
  exact k (d :: ds) r2 q2 (v :: us) H2 W2 (x1.trans x2) E2 (.l (goodB.st m1 x2 E1.res.av).any m2)
end
inductive AllR (K : PySem.W.Frag) (A : Amb) (W : Addr → Prop) (H : Hp) : List Bool → List V → List D → Prop
  | nil : AllR K A W H [] [] []
  | look {bs : List Bool} {v : V} {vs : List V} {d : D} {ds : List D} : mB K A H W H v d → AllR K A W H bs vs ds → AllR K A W H (true :: bs) (v :: vs) (d :: ds)
  | frz {bs : List Bool} {v : V} {vs : List V} {d : D} {ds : List D} : Dw K A W H v d → AllR K A W H bs vs ds → AllR K A W H (false :: bs) (v :: vs) (d :: ds)
def spR (K : PySem.W.Frag) (M : Mode) (bs : List Bool) (vf : VF) : Sp := fun vs H Q _ => ∃ (A : Amb) (W : Addr → Prop) (ds : List D) (r : Rs) (Q0 : D → Rs → Prop), Res K A W H r ∧ AllR K A W H bs vs ds ∧ vf ds r Q0 ∧
  ∀ d r', Q0 d r' → ∀ v H' W', Ext K A W H W' H' → Res K A W' H' r' → M K A H W' H' v d → Q v H'
/-- O tells of the parameters bs -/
def RoOk (O : List Nat) (bs : List Bool) : Prop := (∀ j ∈ O, (j + 2000 ∈ O ∧ bs[j]? = some true) ∨ (2000 ≤ j ∧ j - 2000 ∈ O ∧ bs[j - 2000]? = some true)) ∧ (∀ i < bs.length, bs[i]? = some true → i ∈ O) ∧ bs.length ≤ 1000
instance (O : List Nat) (bs : List Bool) : Decidable (RoOk O bs) := by unfold RoOk; infer_instance
section
variable {K : PySem.W.Frag} {A : Amb} {W W' : Addr → Prop} {H H' : Hp}
theorem AllR.len : ∀ {bs : List Bool} {vs : List V} {ds : List D}, AllR K A W H bs vs ds → vs.length = ds.length ∧ ds.length = bs.length
  | _, _, _, .nil => ⟨rfl, rfl⟩
  | _, _, _, .look _ a => by simp only [List.length_cons]; exact ⟨congrArg (· + 1) a.len.1, congrArg (· + 1) a.len.2⟩
  | _, _, _, .frz _ a => by simp only [List.length_cons]; exact ⟨congrArg (· + 1) a.len.1, congrArg (· + 1) a.len.2⟩
theorem AllR.get : ∀ {bs : List Bool} {vs : List V} {ds : List D}, AllR K A W H bs vs ds → ∀ {i : Nat} {d : D}, ds[i]? = some d → ∃ v, vs[i]? = some v ∧ ((bs[i]? = some true ∧ mB K A H W H v d) ∨ (bs[i]? = some false ∧ Dw K A W H v d))
  | _, _, _, .nil, i, d, h => by simp at h
  | _, _, _, .look m a, 0, d, h => by
    simp only [List.getElem?_cons_zero, Option.some.injEq] at h
    subst h
    exact ⟨_, rfl, .inl ⟨rfl, m⟩⟩
  | _, _, _, .frz m a, 0, d, h => by
    simp only [List.getElem?_cons_zero, Option.some.injEq] at h
    subst h
    exact ⟨_, rfl, .inr ⟨rfl, m⟩⟩
  | _, _, _, .look m a, i + 1, d, h => by
    simp only [List.getElem?_cons_succ] at h ⊢
    exact a.get h
  | _, _, _, .frz m a, i + 1, d, h => by
    simp only [List.getElem?_cons_succ] at h ⊢
    exact a.get h
theorem AllR.reb {B : Amb} (l : A.Like B) : ∀ {bs : List Bool} {vs : List V} {ds : List D}, AllR K A W H bs vs ds → AllR K B W H bs vs ds
  | _, _, _, .nil => .nil
  | _, _, _, .look m a => .look (NoneM.reb l m) (a.reb l)
  | _, _, _, .frz m a => .frz (m.reb l.d l.s l.as) (a.reb l)
theorem env_startR {N : List Str} {O : List Nat} {bs : List Bool} {vs : List V} {ds : List D} {r : Rs} (R : Res K A W H r) (h : AllR K A W H bs vs ds) (hb : A.bo = []) (ho : RoOk O bs) : Env K A W H O W (start N vs) H (startV N ds) r := by
  obtain ⟨h1, h2, h3⟩ := ho
  obtain ⟨l1, l2⟩ := h.len
  have at_ : ∀ {i : Nat} {v : V}, vs[i]? = some v → (start N vs)[i]? = some (some v) := fun {i v} e => by
    unfold L2.start
    have hi : i < vs.length := (List.getElem?_eq_some_iff.mp e).1
    rw [List.getElem?_append_left (by simpa using hi), List.getElem?_map, e]
    rfl
  have lt : ∀ {i : Nat} {d : D}, ds[i]? = some d → i < 1000 := fun {i d} e => by
    have := (List.getElem?_eq_some_iff.mp e).1
    omega
  have noF : ∀ {i : Nat} {d : D}, ds[i]? = some d → ¬ Fre O i := fun {i d} e f => by
    rcases h1 i f.1 with ⟨q, _⟩ | ⟨q, _⟩
    · exact f.2 q
    · have := lt e
      omega
  exact {
    len := by simp [L2.start, startV, l1]
    var := fun i d e n => by
      have e2 := start_at e
      obtain ⟨v, g1, g2⟩ := h.get e2
      refine ⟨v, at_ g1, ?_⟩
      rcases g2 with ⟨g2, _⟩ | ⟨_, g2⟩
      · exact absurd (h2 i (by rw [← l2]; exact (List.getElem?_eq_some_iff.mp e2).1) g2) n
      · exact g2
    own := fun i d e n => absurd n (noF (start_at e))
    rdo := fun i d e n => by
      have e2 := start_at e
      obtain ⟨v, g1, g2⟩ := h.get e2
      have gm : mB K A H W H v d := by
        rcases g2 with ⟨_, g2⟩ | ⟨_, g2⟩
        · exact g2
        · exact .inl g2
      refine ⟨v, at_ g1, ?_, fun a kvs e1 e2 tk => ?_⟩
      · rcases gm with g2 | ⟨a, e, g2, g3⟩
        · exact .inl g2
        · exact .inr ⟨a, e, g2, g3, g2.isSome⟩
      · subst e2
        obtain ⟨b, xs, e3, hb, _⟩ := gm.dic tk
        rw [e1] at e3
        cases e3
        exact hb.some
    rin := fun i n => by
      rcases h1 _ n with ⟨_, q⟩ | ⟨_, q, _⟩
      · have := (List.getElem?_eq_some_iff.mp q).1
        omega
      · rwa [Nat.add_sub_cancel] at q
    bor := fun i a n => absurd n (by rw [hb]; simp)
    dis := fun i j a d e n _ _ q => absurd n (noF (start_at q))
    res := R
    bs := .refl }
end
section
variable {P : Program} {w : World} {K : PySem.W.Frag} {mg : Str → Option Value} {base : Heap} {x qual : Str} {st : Stmt} {f : Addr} {fd : FuncData} {N ps : List Str} {k : Nat} {M : Mode} {vf : VF} {vts : VTS} {O O' : List Nat} {bs : List Bool}
theorem body_runR [NoneM M] {A : Amb} {W : Addr → Prop} {H : Hp} {vs : List V} {ds : List D} {r : Rs} {Q0 : D → Rs → Prop} {Q : VK} (R : Res K A W H r) (hv : AllR K A W H bs vs ds) (ho : RoOk O bs) (law : vts { nx := fun _ r => Q0 .none r, rt := Q0 } (startV N ds) r)
    (k : ∀ d r', Q0 d r' → ∀ v H' W', Ext K A W H W' H' → Res K A W' H' r' → M K A H W' H' v d → Q v H') : liftS K M [] O O' vts { nx := fun _ H' => Q .non H', rt := Q } (start N vs) H := by
  have l := A.like []
  refine ⟨A.reb [], W, H, W, startV N ds, r, _, env_startR (R.reb l) (hv.reb l) rfl ho, law, fun ρ' r' q σ' H' W' E' _ => ?_, fun d r' q v H' W' x R' m => k d r' q v H' W' (x.reb l.sym) (R'.reb l.sym) (NoneM.reb l.sym m), fun _ _ z => z.elim, fun _ _ z => z.elim⟩
  exact k _ r' q _ H' W' (E'.bs.reb l.sym) (E'.res.reb l.sym) NoneM.non
theorem okR [NoneM M] (F : Fun K x qual st f fd) (S : FnScope N ps (defScope st)) (hl : ∀ ds r Q, vf ds r Q → ds.length = ps.length) (ho : RoOk O bs)
    (hb : ∀ (cdv : Value) (A : Around) (outer : List PySem.Env) (s : Shared) (H : Hp) (E : XK), Room k (A.deeper (envOfC qual (defScope st) s.heap.objs.size f cdv)) → VSs (cxOf CX0 P w K mg base N qual (defScope st) f cdv A outer s H E).nox M [] O O' (defBody st) vts)
    (law : ∀ ds r Q, vf ds r Q → vts { nx := fun _ r => Q .none r, rt := Q } (startV N ds) r) : FnOk P w K mg base CX0 (k + 1) f fd ps (spR K M bs vf) := by
  refine F.ok S (fun vs H Q E h => ?_) (fun cdv A outer s H vs Q E hr h => ?_)
  · obtain ⟨A, W, ds, r, Q0, R, hv, q, _⟩ := h
    rw [hv.len.1]
    exact hl _ _ _ q
  · obtain ⟨A1, W, ds, r, Q0, R, hv, q, kk⟩ := h
    exact ⟨_, hb cdv A outer s H E hr, body_runR R hv ho (law _ _ _ q) kk⟩
end
/-- what a call's arguments are to a def that looks at bs -/
inductive LooksAt : List ArgV → List Bool → Prop
  | nil : LooksAt [] []
  | f {v : VT} {as : List ArgV} {bs : List Bool} : LooksAt as bs → LooksAt (.f v :: as) (false :: bs)
  | l {v : VT} {as : List ArgV} {bs : List Bool} : LooksAt as bs → LooksAt (.l v :: as) (true :: bs)
def vCallA (vf : VF) (as : List ArgV) : VT := fun ρ r Q => vArgs as ρ r fun ds r1 => vf ds r1 Q
theorem ArgsR.look {K : PySem.W.Frag} {A : Amb} {W : Addr → Prop} {H : Hp} {σ : L2.St} {ρ : En} : ∀ {as : List ArgV} {bs : List Bool} {vs : List V} {ds : List D}, ArgsR K A W H σ ρ as vs ds → LooksAt as bs → AllR K A W H bs vs ds
  | _, _, _, _, .nil, .nil => .nil
  | _, _, _, _, .f h a, .f z => .frz h (a.look z)
  | _, _, _, _, .l h a, .l z => .look h (a.look z)
section
variable {X : Cx} {M : Mode} {O : List Nat} {k : Nat} {f C : Addr} {fd : FuncData} {ps : List Str} {vf : VF} {x m : Str} {p pos apos : Pos} {e o : Expr} {es : List Expr} {as : List ArgV} {bs : List Bool} {v1 : VT}
theorem lift_callR (g : GoodM M) (l : LooksAt as bs) {E : XK} {σ : L2.St} {H : Hp} {Q : VK} (q : liftM X.K O M (vCallA vf as) σ H Q) : tCall (spR X.K M bs vf) [] E (liftArgs X.K O as) σ H Q := by
  obtain ⟨A, W0, H0, W, ρ, r, Q0, E, q, k⟩ := q
  refine ⟨A, W0, H0, W, ρ, r, _, E, q, fun ds r1 q1 us H1 W1 x1 E1 m1 => ?_⟩
  show spR X.K M bs vf (us ++ []) H1 Q _
  rw [List.append_nil]
  exact ⟨A, W1, ds, r1, _, E1.res, m1.look l, q1, fun d r2 q2 v H2 W2 x2 R2 m2 => k d r2 q2 v H2 W2 (x1.trans x2) (E1.ext x2 R2) (g.bk m2 x1.al)⟩
theorem vm_callR (g : GoodM M) (F : FnOk X.prog X.w X.K X.mg X.base CX0 k f fd ps (spR X.K M bs vf)) (hr : Room k X.A) (hg : Gl X x) (hm : X.mg x = some (.ref f)) (hk : PySem.W.keepIn X.K (.ref f) = true) (hb : Binds X.K fd ps [])
    (l : LooksAt as bs) (ha : VAs X O (e :: es) as) (hdb : (x == ("__debug__" : Str)) = false := by decide) (he : starEach (e :: es) X.env = (false, eval e X.env) :: starEach es X.env := by rfl) (hpl : (backTo pos (starEach es X.env)).any (·.1) = false := by rfl) :
    PE X (.Call (.Name x p) (e :: es) [] pos) (liftM X.K O M (vCallA vf as)) := PE.imp (pe_call F hr hg hm hk hb .nil pass0 ha hdb he hpl) fun _ _ _ q => lift_callR g l q
theorem ve_callR (F : FnOk X.prog X.w X.K X.mg X.base CX0 k f fd ps (spR X.K mF bs vf)) (hr : Room k X.A) (hg : Gl X x) (hm : X.mg x = some (.ref f)) (hk : PySem.W.keepIn X.K (.ref f) = true) (hb : Binds X.K fd ps [])
    (l : LooksAt as bs) (ha : VAs X O (e :: es) as) (hdb : (x == ("__debug__" : Str)) = false := by decide) (he : starEach (e :: es) X.env = (false, eval e X.env) :: starEach es X.env := by rfl) (hpl : (backTo pos (starEach es X.env)).any (·.1) = false := by rfl) :
    VE X O (.Call (.Name x p) (e :: es) [] pos) (vCallA vf as) := vm_callR goodF F hr hg hm hk hb l ha hdb he hpl
end
end Sn
namespace Sn
open PySem PySem.Spec PyProof.Rows L2
theorem flds_inj : ∀ {fs gs : List (Str × D)}, fs.map (fun p => ((.str p.1, p.2) : D × D)) = gs.map (fun p => (.str p.1, p.2)) → fs = gs
  | [], [], _ => rfl
  | [], _ :: _, h => by simp at h
  | _ :: _, [], h => by simp at h
  | p :: fs, q :: gs, h => by
    simp only [List.map_cons, List.cons.injEq, Prod.mk.injEq, PyData.str.injEq] at h
    rw [flds_inj h.2, Prod.ext h.1.1 h.1.2]
theorem dIns_inj {C C' : Addr} {fs gs : List (Str × D)} (h : dIns C fs = dIns C' gs) : C = C' ∧ fs = gs := by
  unfold dIns at h
  simp only [PyData.dict.injEq, List.cons.injEq, Prod.mk.injEq, PyData.list.injEq, PyData.int.injEq, true_and, and_true] at h
  exact ⟨Int.ofNat.inj h.1, flds_inj h.2⟩
section
variable {K : PySem.W.Frag} {A : Amb} {W : Addr → Prop} {Hs H : Hp} {v : V} {d : D} {a C : Addr} {fs : List (Str × D)}
theorem Own.insD (h : Own K A W H a d) (e : d = dIns C fs) : ∃ dx xs, H a = some (.ins C dx xs) ∧ W dx ∧ H dx = some (.own a) ∧ DwF K A W H xs fs := by
  cases h with
  | lst h q => cases e
  | dk h q =>
    unfold dIns at e
    cases q with
    | nil => simp at e
    | @cons k v vs d ds _ _ =>
      simp only [PyData.dict.injEq, List.cons.injEq, Prod.mk.injEq] at e
      cases k <;> cases e.1.1
  | ins w h h2 q =>
    obtain ⟨rfl, rfl⟩ := dIns_inj e
    exact ⟨_, _, h, w, h2, q⟩
theorem mB.insD (h : mB K A Hs W H v d) (e : d = dIns C fs) : ∃ a dx xs, v = .ref a ∧ H a = some (.ins C dx xs) ∧ DwF K A W H xs fs := by
  rcases h with h | ⟨a, rfl, h, _⟩
  · cases h with
    | dk w h q =>
      unfold dIns at e
      cases q with
      | nil => simp at e
      | @cons k v vs d ds _ _ =>
        simp only [PyData.dict.injEq, List.cons.injEq, Prod.mk.injEq] at e
        cases k <;> cases e.1.1
    | ins w w2 h h2 q =>
      obtain ⟨rfl, rfl⟩ := dIns_inj e
      exact ⟨_, _, _, rfl, h, q⟩
    | st => simp [dSt, dIns] at e
    | scr => simp [dScr, dIns] at e
    | cell _ => simp [dCell, dIns] at e
    | obj _ => simp [dRef, dIns] at e
    | _ => cases e
  · refine h.cas (fun g => ?_) fun o xs ds z _ q => ?_
    · obtain ⟨dx, xs, h1, _, _, q⟩ := g.insD e
      exact ⟨a, dx, xs, rfl, h1, q⟩
    · rw [z] at e
      unfold dIns at e
      cases q with
      | nil => simp at e
      | @cons k v vs d ds _ _ =>
        simp only [PyData.dict.injEq, List.cons.injEq, Prod.mk.injEq] at e
        cases k <;> cases e.1.1
theorem DwF.look {f : Str} : ∀ {xs : List (Str × V)} {ds : List (Str × D)}, DwF K A W H xs ds → (ds.lookup f = none → xs.lookup f = none) ∧ ∀ d, ds.lookup f = some d → ∃ v, xs.lookup f = some v ∧ Dw K A W H v d
  | _, _, .nil => ⟨fun _ => rfl, fun d h => by cases h⟩
  | _, _, .cons (k := k) h a => by
    obtain ⟨i1, i2⟩ := DwF.look (f := f) a
    by_cases e : f == k
    · simp only [List.lookup, e]
      exact ⟨fun z => (by cases z), fun d z => by cases z; exact ⟨_, rfl, h⟩⟩
    · have e : (f == k) = false := by simpa using e
      simp only [List.lookup, e]
      exact ⟨i1, i2⟩
end
/-- e.f of an object of the class at C -/
def dFld (C : Addr) (f : Str) (d : D) (Q : D → Prop) : Prop := ∃ fs, d = dIns C fs ∧ ∃ z, fs.lookup f = some z ∧ Q z
/-- o.m(..) of an object of the class at C -/
def vMethA (C : Addr) (m : Str) (vf : VF) (v1 : VT) (as : List ArgV) : VT := fun ρ r Q => v1 ρ r fun d r1 => ∃ fs, d = dIns C fs ∧ fs.lookup m = none ∧ vArgs as ρ r1 fun ds r2 => vf (d :: ds) r2 Q
section
variable {X : Cx} {M : Mode} {O : List Nat} {k : Nat} {f C : Addr} {fd : FuncData} {ps : List Str} {vf : VF} {x m fn : Str} {p pos apos : Pos} {e o : Expr} {es : List Expr} {as : List ArgV} {bs : List Bool} {v1 : VT}
theorem ve_fld (c : Cls X.K C) (n : NoAttr X.K C fn) (h : VB X O e v1) (hb : attributeBase e fn X.env (eval e X.env) = eval e X.env := by rfl) : VE X O (.Attribute e fn pos) (vUn (dFld C fn) v1) := PE.imp (pe_fld h hb) fun σ H Q q => by
  obtain ⟨A, W0, H0, W, ρ, r, Q0, E, q, k⟩ := q
  refine ⟨A, W0, H0, W, ρ, r, _, E, q, fun d r1 q1 v H1 W1 x1 E1 m1 => ?_⟩
  obtain ⟨fs, e, z, hz, q1⟩ := q1
  obtain ⟨a, dx, xs, rfl, ha, hf⟩ := m1.insD e
  obtain ⟨u, hu, hd⟩ := hf.look.2 z hz
  exact ⟨a, C, dx, xs, u, rfl, ha, c, n, hu, k z r1 q1 u H1 W1 x1 E1 hd⟩
end
end Sn
namespace Sn
open PySem PySem.Spec PyProof.Rows L2
/-- the parameters bs (true: changed), their places bo -/
inductive AllX (K : PySem.W.Frag) (A : Amb) (W : Addr → Prop) (H : Hp) : Nat → List Bool → List V → List D → List (Nat × Addr) → Prop
  | nil {k : Nat} : AllX K A W H k [] [] [] []
  | frz {k : Nat} {bs : List Bool} {v : V} {vs : List V} {d : D} {ds : List D} {bo : List (Nat × Addr)} : Dw K A W H v d → AllX K A W H (k + 1) bs vs ds bo → AllX K A W H k (false :: bs) (v :: vs) (d :: ds) bo
  | mut {k : Nat} {bs : List Bool} {a : Addr} {vs : List V} {d : D} {ds : List D} {bo : List (Nat × Addr)} : Own K A W H a d → ¬ W a → ¬ A.U a → AllX K A W H (k + 1) bs vs ds bo → AllX K A W H k (true :: bs) (.ref a :: vs) (d :: ds) ((k, a) :: bo)
/-- the things handed back -/
inductive Backs (K : PySem.W.Frag) (A : Amb) (W : Addr → Prop) (H : Hp) : List (Nat × Addr) → List D → Prop
  | nil : Backs K A W H [] []
  | cons {i : Nat} {a : Addr} {bo : List (Nat × Addr)} {d : D} {ds : List D} : Own K A W H a d → ¬ W a → Backs K A W H bo ds → Backs K A W H ((i, a) :: bo) (d :: ds)
/-- .. and these places may be changed, too -/
def Amb.bow (A : Amb) (bo : List (Nat × Addr)) : Amb := { A with as := A.as ++ bo.map (·.2) }
theorem Amb.bowU {A : Amb} {bo : List (Nat × Addr)} {a : Addr} : (A.bow bo).U a ↔ A.U a ∨ a ∈ bo.map (·.2) := by
  unfold Amb.U Amb.bow
  simp only [List.mem_append]
  constructor
  · rintro (h | h | h | (h | h) | h)
    · exact .inl (.inl h)
    · exact .inl (.inr (.inl h))
    · exact .inl (.inr (.inr (.inl h)))
    · exact .inl (.inr (.inr (.inr (.inl h))))
    · exact .inr h
    · exact .inl (.inr (.inr (.inr (.inr h))))
  · rintro ((h | h | h | h | h) | h)
    · exact .inl h
    · exact .inr (.inl h)
    · exact .inr (.inr (.inl h))
    · exact .inr (.inr (.inr (.inl (.inl h))))
    · exact .inr (.inr (.inr (.inr h)))
    · exact .inr (.inr (.inr (.inl (.inr h))))
abbrev VFX := List D → Rs → (D → List D → Rs → Prop) → Prop
def spX (K : PySem.W.Frag) (M : Mode) (bs : List Bool) (vf : VFX) : Sp := fun vs H Q _ => ∃ (A : Amb) (W : Addr → Prop) (ds : List D) (r : Rs) (Q0 : D → List D → Rs → Prop) (bo : List (Nat × Addr)), Res K A W H r ∧ AllX K A W H 0 bs vs ds bo ∧ (bo.map (·.2)).Nodup ∧ vf ds r Q0 ∧
  ∀ d es r', Q0 d es r' → ∀ v H' W', Ext K (A.bow bo) W H W' H' → Res K A W' H' r' → Backs K A W' H' bo es → M K A H W' H' v d → Q v H'
/-- a result together with the parameters' things -/
def dPairX (d : D) (es : List D) : D := .dict [(.none, d), (.none, .list es)]
theorem dPairX_inj {d e : D} {ds es : List D} (h : dPairX d ds = dPairX e es) : d = e ∧ ds = es := by
  simpa [dPairX] using h
def getE (ρ : En) : List Nat → Option (List D)
  | [] => some []
  | i :: is => match ρ[i]? with
    | some (some d) => match getE ρ is with
      | some ds => some (d :: ds)
      | none => none
    | _ => none
theorem getE_at {ρ : En} : ∀ {is : List Nat} {ds : List D}, getE ρ is = some ds → ds.length = is.length ∧ ∀ {k i : Nat}, is[k]? = some i → ∃ d, ds[k]? = some d ∧ ρ[i]? = some (some d)
  | [], ds, h => by
    cases h
    exact ⟨rfl, fun {k i} e => by simp at e⟩
  | j :: is, ds, h => by
    unfold getE at h
    split at h
    · rename_i d hd
      split at h
      · rename_i es he
        cases h
        obtain ⟨l, g⟩ := getE_at he
        refine ⟨by simp [l], fun {k i} e => ?_⟩
        cases k with
        | zero =>
          simp only [List.getElem?_cons_zero, Option.some.injEq] at e
          subst e
          exact ⟨d, rfl, hd⟩
        | succ k =>
          simp only [List.getElem?_cons_succ] at e ⊢
          exact g e
      · cases h
    · cases h
/-- results of a def that changes parameters bp: the result by M, and what the parameters hold -/
def mP (M : Mode) (bp : List Nat) : Mode := fun K A Hs W H v d => ∃ x es, d = dPairX x es ∧ es.length = bp.length ∧ (∀ Hs' : Hp, (∀ a, Hs a = none → (∀ p ∈ A.bo, p.2 ≠ a) → Hs' a = none) → M K A Hs' W H v x) ∧
  ∀ (k i : Nat) (a : Addr), bp[k]? = some i → (i, a) ∈ A.bo → ∃ e, es[k]? = some e ∧ Own K A W H a e ∧ ¬ W a
def vRetP (bp : List Nat) (v : VT) : VTS := fun N ρ r => v ρ r fun d r1 => ∃ es, getE ρ bp = some es ∧ N.rt (dPairX d es) r1
def MuOk (O : List Nat) (bs : List Bool) : Prop := (∀ j ∈ O, (j < 1000 ∧ j + 1000 ∈ O ∧ bs[j]? = some true) ∨ (1000 ≤ j ∧ j < 2000)) ∧ (∀ i < bs.length, bs[i]? = some true → i ∈ O) ∧ bs.length ≤ 1000
instance (O : List Nat) (bs : List Bool) : Decidable (MuOk O bs) := by unfold MuOk; infer_instance
/-- the places of the changed parameters -/
def posT : Nat → List Bool → List Nat
  | _, [] => []
  | k, true :: bs => k :: posT (k + 1) bs
  | k, false :: bs => posT (k + 1) bs
section
variable {K : PySem.W.Frag} {A : Amb} {W W' : Addr → Prop} {H H' : Hp}
theorem AllX.len : ∀ {k : Nat} {bs : List Bool} {vs : List V} {ds : List D} {bo : List (Nat × Addr)}, AllX K A W H k bs vs ds bo → vs.length = ds.length ∧ ds.length = bs.length ∧ bo.map (·.1) = posT k bs
  | _, _, _, _, _, .nil => ⟨rfl, rfl, rfl⟩
  | _, _, _, _, _, .frz _ a => by
    obtain ⟨h1, h2, h3⟩ := a.len
    exact ⟨by simp [h1], by simp [h2], h3⟩
  | _, _, _, _, _, .mut _ _ _ a => by
    obtain ⟨h1, h2, h3⟩ := a.len
    exact ⟨by simp [h1], by simp [h2], by simp [posT, h3]⟩
theorem AllX.get : ∀ {k : Nat} {bs : List Bool} {vs : List V} {ds : List D} {bo : List (Nat × Addr)}, AllX K A W H k bs vs ds bo → ∀ {i : Nat} {d : D}, ds[i]? = some d →
    ∃ v, vs[i]? = some v ∧ ((bs[i]? = some false ∧ Dw K A W H v d) ∨ (bs[i]? = some true ∧ ∃ a, v = .ref a ∧ (k + i, a) ∈ bo ∧ Own K A W H a d ∧ ¬ W a ∧ ¬ A.U a))
  | _, _, _, _, _, .nil, i, d, h => by simp at h
  | _, _, _, _, _, .frz m a, 0, d, h => by
    simp only [List.getElem?_cons_zero, Option.some.injEq] at h
    subst h
    exact ⟨_, rfl, .inl ⟨rfl, m⟩⟩
  | _, _, _, _, _, .mut m w u a, 0, d, h => by
    simp only [List.getElem?_cons_zero, Option.some.injEq] at h
    subst h
    exact ⟨_, rfl, .inr ⟨rfl, _, rfl, by simp, m, w, u⟩⟩
  | _, _, _, _, _, .frz m a, i + 1, d, h => by
    simp only [List.getElem?_cons_succ] at h ⊢
    obtain ⟨v, h1, h2⟩ := a.get h
    refine ⟨v, h1, ?_⟩
    rw [show ∀ k : Nat, k + (i + 1) = k + 1 + i from fun k => by omega]
    exact h2
  | _, _, _, _, _, .mut m w u a, i + 1, d, h => by
    simp only [List.getElem?_cons_succ] at h ⊢
    obtain ⟨v, h1, h2⟩ := a.get h
    refine ⟨v, h1, ?_⟩
    rw [show ∀ k : Nat, k + (i + 1) = k + 1 + i from fun k => by omega]
    rcases h2 with h2 | ⟨h2, b, e, h3, h4⟩
    · exact .inl h2
    · exact .inr ⟨h2, b, e, List.mem_cons_of_mem _ h3, h4⟩
theorem AllX.mem : ∀ {k : Nat} {bs : List Bool} {vs : List V} {ds : List D} {bo : List (Nat × Addr)}, AllX K A W H k bs vs ds bo → ∀ {j : Nat} {a : Addr}, (j, a) ∈ bo →
    ∃ i d, j = k + i ∧ bs[i]? = some true ∧ vs[i]? = some (.ref a) ∧ ds[i]? = some d ∧ Own K A W H a d ∧ ¬ W a ∧ ¬ A.U a
  | _, _, _, _, _, .nil, j, a, h => by simp at h
  | _, _, _, _, _, .frz m q, j, a, h => by
    obtain ⟨i, d, h1, h2, h3, h4, h5⟩ := q.mem h
    exact ⟨i + 1, d, by omega, h2, h3, h4, h5⟩
  | _, _, _, _, _, .mut m w u q, j, a, h => by
    rcases List.mem_cons.mp h with h | h
    · cases h
      exact ⟨0, _, rfl, rfl, rfl, rfl, m, w, u⟩
    · obtain ⟨i, d, h1, h2, h3, h4, h5⟩ := q.mem h
      exact ⟨i + 1, d, by omega, h2, h3, h4, h5⟩
theorem AllX.reb {B : Amb} (l : A.Like B) : ∀ {k : Nat} {bs : List Bool} {vs : List V} {ds : List D} {bo : List (Nat × Addr)}, AllX K A W H k bs vs ds bo → AllX K B W H k bs vs ds bo
  | _, _, _, _, _, .nil => .nil
  | _, _, _, _, _, .frz m a => .frz (m.reb l.d l.s l.as) (a.reb l)
  | _, _, _, _, _, .mut m w u a => .mut (m.reb l.d l.s l.as) w (fun z => u ((l.U _).mp z)) (a.reb l)
theorem nodup_snd : ∀ {bo : List (Nat × Addr)}, (bo.map (·.2)).Nodup → ∀ {i j : Nat} {a : Addr}, (i, a) ∈ bo → (j, a) ∈ bo → i = j
  | [], _, i, j, a, h, _ => by simp at h
  | p :: bo, nd, i, j, a, h, g => by
    simp only [List.map_cons, List.nodup_cons] at nd
    rcases List.mem_cons.mp h with h | h
    · rcases List.mem_cons.mp g with g | g
      · rw [← g] at h; cases h; rfl
      · exact absurd (List.mem_map.mpr ⟨_, g, by rw [← h]⟩) nd.1
    · rcases List.mem_cons.mp g with g | g
      · exact absurd (List.mem_map.mpr ⟨_, h, by rw [← g]⟩) nd.1
      · exact nodup_snd nd.2 h g
/-- the heap without some places -/
def minus (H : Hp) (bo : List (Nat × Addr)) : Hp := fun a => if a ∈ bo.map (·.2) then none else H a
theorem minus_some {bo : List (Nat × Addr)} {a : Addr} {o : HO} (h : minus H bo a = some o) : H a = some o := by
  unfold minus at h
  split at h
  · cases h
  · exact h
theorem minus_of {bo : List (Nat × Addr)} {a : Addr} (h : a ∉ bo.map (·.2)) : minus H bo a = H a := by
  unfold minus
  rw [if_neg h]
theorem minus_in {bo : List (Nat × Addr)} {a : Addr} (h : a ∈ bo.map (·.2)) : minus H bo a = none := by
  unfold minus
  rw [if_pos h]
theorem minus_ext {bo : List (Nat × Addr)} : Ext K A W (minus H bo) W H where
  fr := fun a o _ e => minus_some e
  al := fun a e => by
    unfold minus
    split
    · rfl
    · exact e
  tp := fun a xs h => by
    rcases h with (h | ⟨u, h⟩) | h
    · exact .inl (.inl (minus_some h))
    · exact .inl (.inr ⟨u, minus_some h⟩)
    · exact .inr h
  wk := fun _ h => h
  wn := fun _ h => .inl h
theorem env_startX {N : List Str} {O : List Nat} {bs : List Bool} {vs : List V} {ds : List D} {bo : List (Nat × Addr)} {r : Rs} (R : Res K A W H r) (h : AllX K A W H 0 bs vs ds bo) (hb : A.bo = bo) (nd : (bo.map (·.2)).Nodup) (ho : MuOk O bs) : Env K A W (minus H bo) O W (start N vs) H (startV N ds) r := by
  obtain ⟨h1, h2, h3⟩ := ho
  obtain ⟨l1, l2, l3⟩ := h.len
  have at_ : ∀ {i : Nat} {v : V}, vs[i]? = some v → (start N vs)[i]? = some (some v) := fun {i v} e => by
    unfold L2.start
    have hi : i < vs.length := (List.getElem?_eq_some_iff.mp e).1
    rw [List.getElem?_append_left (by simpa using hi), List.getElem?_map, e]
    rfl
  have atD : ∀ {i : Nat} {d : D}, ds[i]? = some d → (startV N ds)[i]? = some (some d) := fun {i d} e => by
    unfold startV
    have hi : i < ds.length := (List.getElem?_eq_some_iff.mp e).1
    rw [List.getElem?_append_left (by simpa using hi), List.getElem?_map, e]
    rfl
  have lt : ∀ {i : Nat} {d : D}, ds[i]? = some d → i < 1000 := fun {i d} e => by
    have := (List.getElem?_eq_some_iff.mp e).1
    omega
  have no2 : ∀ i, i + 2000 ∉ O := fun i z => by rcases h1 _ z with ⟨q, _⟩ | ⟨_, q⟩ <;> omega
  have tr : ∀ {i : Nat} {d : D}, ds[i]? = some d → i ∈ O → bs[i]? = some true := fun {i d} e f => by
    rcases h1 i f with ⟨_, _, q⟩ | ⟨q, _⟩
    · exact q
    · have := lt e
      omega
  have own : ∀ (i : Nat) (d : D), (startV N ds)[i]? = some (some d) → Fre O i → ∃ a, (start N vs)[i]? = some (some (.ref a)) ∧ (i, a) ∈ bo ∧ Own K A W H a d ∧ ¬ W a ∧ ¬ A.U a := fun i d e n => by
    have e2 := start_at e
    obtain ⟨v, g1, g2⟩ := h.get e2
    rcases g2 with ⟨g2, _⟩ | ⟨_, a, rfl, g3, g4, g5, g6⟩
    · rw [tr e2 n.1] at g2
      cases g2
    · exact ⟨a, at_ g1, by simpa using g3, g4, g5, g6⟩
  exact {
    len := by simp [L2.start, startV, l1]
    var := fun i d e n => by
      have e2 := start_at e
      obtain ⟨v, g1, g2⟩ := h.get e2
      refine ⟨v, at_ g1, ?_⟩
      rcases g2 with ⟨_, g2⟩ | ⟨g2, _⟩
      · exact g2
      · exact absurd (h2 i (by rw [← l2]; exact (List.getElem?_eq_some_iff.mp e2).1) g2) n
    own := fun i d e n => by
      obtain ⟨a, g1, g2, g3, g4, g5⟩ := own i d e n
      exact ⟨a, g1, g3, g4, g5, minus_in (List.mem_map.mpr ⟨_, g2, rfl⟩)⟩
    rdo := fun i d e n => absurd n (no2 i)
    rin := fun i n => absurd n (no2 i)
    bor := fun i a n => by
      rw [hb] at n
      obtain ⟨j, d, g1, g2, g3, g4, g5⟩ := h.mem n
      have g1 : i = j := by omega
      subst g1
      have hi := h2 i (by rw [← l2]; exact (List.getElem?_eq_some_iff.mp g4).1) g2
      have hi3 := lt g4
      refine ⟨⟨hi, no2 i⟩, ?_, hi3, at_ g3, d, atD g4⟩
      rcases h1 i hi with ⟨_, q, _⟩ | ⟨q, _⟩
      · exact q
      · omega
    dis := fun i j a d e n1 n2 nij q1 q2 q3 q4 => by
      obtain ⟨a1, g1, g2, _⟩ := own i d q1 n1
      obtain ⟨a2, k1, k2, _⟩ := own j e q2 n2
      rw [g1] at q3
      rw [k1] at q4
      cases q3
      cases q4
      exact nij (nodup_snd nd g2 k2)
    res := R
    bs := minus_ext }
theorem Backs.of : ∀ {bo : List (Nat × Addr)} {es : List D}, es.length = bo.length → (∀ (k i : Nat) (a : Addr), bo[k]? = some (i, a) → ∃ e, es[k]? = some e ∧ Own K A W H a e ∧ ¬ W a) → Backs K A W H bo es
  | [], [], _, _ => .nil
  | [], _ :: _, h, _ => by simp at h
  | _ :: _, [], h, _ => by simp at h
  | (i, a) :: bo, e :: es, h, g => by
    obtain ⟨e', h1, h2, h3⟩ := g 0 i a rfl
    cases h1
    exact .cons h2 h3 (Backs.of (by simpa using h) fun k j b z => by simpa using g (k + 1) j b (by simpa using z))
theorem Backs.at : ∀ {bo : List (Nat × Addr)} {es : List D}, Backs K A W H bo es → es.length = bo.length ∧ ∀ {k i : Nat} {a : Addr}, bo[k]? = some (i, a) → ∃ e, es[k]? = some e ∧ Own K A W H a e ∧ ¬ W a
  | _, _, .nil => ⟨rfl, fun {k i a} h => by simp at h⟩
  | _, _, .cons o w b => by
    obtain ⟨l, g⟩ := b.at
    refine ⟨by simp [l], fun {k i a} h => ?_⟩
    cases k with
    | zero => simp at h; obtain ⟨rfl, rfl⟩ := h; exact ⟨_, rfl, o, w⟩
    | succ k => simp only [List.getElem?_cons_succ] at h ⊢; exact g h
/-- what a body with changed parameters did, for its caller -/
theorem ext_back {bo : List (Nat × Addr)} {es : List D} (hA : ∀ p ∈ bo, ∃ d, Own K A W H p.2 d) (x : Ext K A W (minus H bo) W' H') (b : Backs K A W' H' bo es) : Ext K (A.bow bo) W H W' H' := by
  obtain ⟨l, g⟩ := b.at
  have bk : ∀ {a}, a ∈ bo.map (·.2) → ∃ e, Own K A W' H' a e ∧ ¬ W' a := fun {a} z => by
    obtain ⟨p, hp, rfl⟩ := List.mem_map.mp z
    obtain ⟨k, hk, e⟩ := List.getElem_of_mem hp
    obtain ⟨e, _, h1, h2⟩ := g (k := k) (i := p.1) (a := p.2) (by rw [List.getElem?_eq_getElem hk, e])
    exact ⟨e, h1, h2⟩
  refine ⟨fun a o u e => ?_, fun a e => ?_, fun a xs q => ?_, x.wk, fun a q => ?_⟩
  · have u := fun z => u (Amb.bowU.mpr z)
    exact x.fr a o (fun z => u (.inl z)) (by rw [minus_of fun z => u (.inr z)]; exact e)
  · by_cases z : a ∈ bo.map (·.2)
    · obtain ⟨e', h1, _⟩ := bk z
      exact absurd e h1.isSome
    · have := x.al a e
      rwa [minus_of z] at this
  · refine x.tp a xs ?_
    rcases q with (q | ⟨u, q⟩) | q
    · refine .inl (.inl ?_)
      show minus H bo a = _
      rw [minus_of fun z => ?_]
      · exact q
      · obtain ⟨p, hp, rfl⟩ := List.mem_map.mp z
        obtain ⟨d, hd⟩ := hA p hp
        exact (hd.noTup q xs default).1 rfl
    · refine .inl (.inr ⟨u, ?_⟩)
      show minus H bo a = _
      rw [minus_of fun z => ?_]
      · exact q
      · obtain ⟨p, hp, rfl⟩ := List.mem_map.mp z
        obtain ⟨d, hd⟩ := hA p hp
        exact (hd.noTup q xs u).2 rfl
    · exact .inr q
  · rcases x.wn a q with q' | q'
    · exact .inl q'
    · by_cases z : a ∈ bo.map (·.2)
      · obtain ⟨e', _, h2⟩ := bk z
        exact absurd q h2
      · rw [minus_of z] at q'
        exact .inr q'
end
theorem Ext.bow {K : PySem.W.Frag} {A : Amb} {W W' : Addr → Prop} {H H' : Hp} {b b' : List (Nat × Addr)} (x : Ext K (A.bow b) W H W' H') (e : ∀ a, a ∈ b.map (·.2) → a ∈ b'.map (·.2)) : Ext K (A.bow b') W H W' H' := ⟨fun a o u q => x.fr a o (fun z => u (Amb.bowU.mpr ((Amb.bowU.mp z).imp id (e a)))) q, x.al, x.tp, x.wk, x.wn⟩
section
variable {P : Program} {w : World} {K : PySem.W.Frag} {mg : Str → Option Value} {base : Heap} {x qual : Str} {st : Stmt} {f : Addr} {fd : FuncData} {N ps : List Str} {k : Nat} {M : Mode} {vf : VFX} {vts : VTS} {O O' : List Nat} {bs : List Bool} {bp : List Nat}
/-- the end of the body is fallen through: None -/
def endX (bp : List Nat) (Q : D → List D → Rs → Prop) : VN := { nx := fun ρ r => ∃ es, getE ρ bp = some es ∧ Q .none es r, rt := fun p r => ∃ x es, p = dPairX x es ∧ Q x es r }
theorem body_runX [NoneM M] {A : Amb} {W : Addr → Prop} {H : Hp} {vs : List V} {ds : List D} {r : Rs} {Q0 : D → List D → Rs → Prop} {Q : VK} {bo : List (Nat × Addr)} (R : Res K A W H r) (hv : AllX K A W H 0 bs vs ds bo) (nd : (bo.map (·.2)).Nodup) (ho : MuOk O bs) (hp : posT 0 bs = bp) (law : vts (endX bp Q0) (startV N ds) r)
    (k : ∀ d es r', Q0 d es r' → ∀ v H' W', Ext K (A.bow bo) W H W' H' → Res K A W' H' r' → Backs K A W' H' bo es → M K A H W' H' v d → Q v H') : liftS K (mP M bp) [] O O' vts { nx := fun _ H' => Q .non H', rt := Q } (start N vs) H := by
  have l := A.like bo
  have lb : bo.map (·.1) = bp := by rw [hv.len.2.2, hp]
  have hA : ∀ p ∈ bo, ∃ d, Own K A W H p.2 d := fun p hp => by
    obtain ⟨_, d, _, _, _, _, h, _⟩ := hv.mem (j := p.1) (a := p.2) hp
    exact ⟨d, h⟩
  have bpk : ∀ {k i : Nat} {a : Addr}, bo[k]? = some (i, a) → bp[k]? = some i := fun {k i a} e => by rw [← lb, List.getElem?_map, e]; rfl
  refine ⟨A.reb bo, W, minus H bo, W, startV N ds, r, _, env_startX (R.reb l) (hv.reb l) rfl nd ho, law, fun ρ' r' q σ' H' W' E' _ => ?_, fun d r' q v H' W' x R' m => ?_, fun _ _ z => z.elim, fun _ _ z => z.elim⟩
  · obtain ⟨es, he, q⟩ := q
    obtain ⟨le, ge⟩ := getE_at he
    have b : Backs K A W' H' bo es := Backs.of (by rw [le, ← lb, List.length_map]) fun k i a z => by
      obtain ⟨y1, y2, y3, y4, d, y5⟩ := E'.bor i a (List.mem_of_getElem? z)
      obtain ⟨e, h1, h2⟩ := ge (bpk z)
      rw [y5] at h2
      cases h2
      obtain ⟨a', g1, g2, g3, _⟩ := E'.own i d y5 y1
      rw [y4] at g1
      cases g1
      exact ⟨d, h1, g2.reb l.sym.d l.sym.s l.sym.as, g3⟩
    exact k _ es r' q _ H' W' (ext_back hA (E'.bs.reb l.sym) b) (E'.res.reb l.sym) b NoneM.non
  · obtain ⟨y, es, rfl, q⟩ := q
    obtain ⟨y', es', e, le, hm, g⟩ := m
    obtain ⟨rfl, rfl⟩ := dPairX_inj e
    have b : Backs K A W' H' bo es := Backs.of (by rw [le, ← lb, List.length_map]) fun k i a z => by
      obtain ⟨e, h1, h2, h3⟩ := g k i a (bpk z) (List.mem_of_getElem? z)
      exact ⟨e, h1, h2.reb l.sym.d l.sym.s l.sym.as, h3⟩
    refine k y es r' q v H' W' (ext_back hA (x.reb l.sym) b) (R'.reb l.sym) b (NoneM.reb l.sym (hm H fun a e n => ?_))
    rw [minus_of fun z => ?_] at e
    · exact e
    · obtain ⟨p, hp, z⟩ := List.mem_map.mp z
      exact n p hp z
theorem okX [NoneM M] (F : Fun K x qual st f fd) (S : FnScope N ps (defScope st)) (hl : ∀ ds r Q, vf ds r Q → ds.length = ps.length) (ho : MuOk O bs) (hp : posT 0 bs = bp)
    (hb : ∀ (cdv : Value) (A : Around) (outer : List PySem.Env) (s : Shared) (H : Hp) (E : XK), Room k (A.deeper (envOfC qual (defScope st) s.heap.objs.size f cdv)) → VSs (cxOf CX0 P w K mg base N qual (defScope st) f cdv A outer s H E).nox (mP M bp) [] O O' (defBody st) vts)
    (law : ∀ ds r Q, vf ds r Q → vts (endX bp Q) (startV N ds) r) : FnOk P w K mg base CX0 (k + 1) f fd ps (spX K M bs vf) := by
  refine F.ok S (fun vs H Q E h => ?_) (fun cdv A outer s H vs Q E hr h => ?_)
  · obtain ⟨A, W, ds, r, Q0, bo, R, hv, nd, q, _⟩ := h
    rw [hv.len.1]
    exact hl _ _ _ q
  · obtain ⟨A1, W, ds, r, Q0, bo, R, hv, nd, q, kk⟩ := h
    exact ⟨_, hb cdv A outer s H E hr, body_runX R hv nd ho hp (law _ _ _ q) kk⟩
end
end Sn
namespace Sn
open PySem PySem.Spec PyProof.Rows L2
/-- the slots of the arguments that are changed -/
def mSlots : List ArgV → List Nat
  | [] => []
  | .m i :: as => i :: mSlots as
  | .f _ :: as => mSlots as
  | .l _ :: as => mSlots as
inductive Changes : List ArgV → List Bool → Prop
  | nil : Changes [] []
  | f {v : VT} {as : List ArgV} {bs : List Bool} : Changes as bs → Changes (.f v :: as) (false :: bs)
  | m {i : Nat} {as : List ArgV} {bs : List Bool} : Changes as bs → Changes (.m i :: as) (true :: bs)
section
variable {K : PySem.W.Frag} {A : Amb} {W0 W W' : Addr → Prop} {H0 H H' : Hp} {O : List Nat} {σ : L2.St} {ρ : En} {r r' : Rs}
theorem StpV.of (x : Ext K (A.bow bo) W H W' H') (av : ∀ a, W a → ¬ (A.bow bo).U a) : StpV K W H W' H' := ⟨fun a o w e => x.fr a o (av a w) e, x.tp, x.wk⟩
end
abbrev VTM := En → Rs → (D → En → Rs → Prop) → Prop
abbrev VTMT := En → Rs → (Bool → En → Rs → Prop) → Prop
def liftMm (K : PySem.W.Frag) (O : List Nat) (M : Mode) (vt : VTM) : TE := fun σ H Q => ∃ (A : Amb) (W0 : Addr → Prop) (H0 : Hp) (W : Addr → Prop) (ρ : En) (r : Rs) (Q0 : D → En → Rs → Prop), Env K A W0 H0 O W σ H ρ r ∧ vt ρ r Q0 ∧
  ∀ d ρ' r', Q0 d ρ' r' → ∀ v H' W', StpV K W H W' H' → (∀ a, H' a = none → H a = none) → Env K A W0 H0 O W' σ H' ρ' r' → M K A H W' H' v d → Q v H'
def VEm (X : Cx) (O : List Nat) (e : Expr) (vt : VTM) : Prop := PE X e (liftMm X.K O mF vt)
def vCallX (vf : VFX) (as : List ArgV) : VTM := fun ρ r Q => vArgs as ρ r fun ds r1 => vf ds r1 fun d es r2 => Q d (setAll ρ (mSlots as) es) r2
def vMethX (C : Addr) (m : Str) (vf : VFX) (i : Nat) (as : List ArgV) : VTM := fun ρ r Q => ∃ fs, ρ[i]? = some (some (dIns C fs)) ∧ fs.lookup m = none ∧ vArgs as ρ r fun ds r1 => vf (dIns C fs :: ds) r1 fun d es r2 => Q d (setAll ρ (i :: mSlots as) es) r2
def vPure (v : VT) : VTM := fun ρ r Q => v ρ r fun d r1 => Q d ρ r1
def vDropM (v : VTM) : VTS := fun N ρ r => v ρ r fun _ ρ1 r1 => N.nx ρ1 r1
def vSetM (i : Nat) (v : VTM) : VTS := fun N ρ r => v ρ r fun d ρ1 r1 => N.nx (ρ1.set i (some d)) r1
def vIfM (c : VTMT) (s t : VTS) : VTS := fun N ρ r => c ρ r fun b ρ1 r1 => if b = true then s N ρ1 r1 else t N ρ1 r1
def vBM (va : VTM) : VTMT := fun ρ r Q => va ρ r fun x ρ1 r1 => ∃ c, x = .bool c ∧ Q c ρ1 r1
def vNotM (va : VTMT) : VTMT := fun ρ r Q => va ρ r fun c ρ1 r1 => Q (!c) ρ1 r1
section
variable {K : PySem.W.Frag} {A : Amb} {W0 W : Addr → Prop} {H0 H : Hp} {O : List Nat} {σ : L2.St} {ρ : En} {r : Rs}
/-- the arguments of a call, as the callee's parameters -/
theorem chg_core (E : Env K A W0 H0 O W σ H ρ r) {as : List ArgV} {bs : List Bool} (l : Changes as bs) : ∀ {vs : List V} {ds : List D} {k : Nat}, ArgsR K A W H σ ρ as vs ds → (∀ i ∈ mSlots as, Fre O i) →
    ∃ bo, AllX K A W H k bs vs ds bo ∧ bo.length = (mSlots as).length ∧ (∀ (n i j : Nat) (a : Addr), (mSlots as)[n]? = some i → bo[n]? = some (j, a) → σ[i]? = some (some (.ref a)) ∧ ∃ d, ρ[i]? = some (some d)) ∧ ∀ p ∈ bo, ∃ i ∈ mSlots as, σ[i]? = some (some (.ref p.2)) ∧ ∃ d, ρ[i]? = some (some d) := by
  induction l with
  | nil =>
    intro vs ds k a hf
    cases a
    exact ⟨[], .nil, rfl, fun n i j a h => by simp [mSlots] at h, fun p h => by simp at h⟩
  | f l ih =>
    intro vs ds k a hf
    cases a with
    | f h a =>
      obtain ⟨bo, h1, h2, h3, h4⟩ := ih (k := k + 1) a hf
      exact ⟨bo, .frz h h1, h2, h3, h4⟩
  | @m i as bs l ih =>
    intro vs ds k a hf
    cases a with
    | m h e a =>
      obtain ⟨bo, h1, h2, h3, h4⟩ := ih (k := k + 1) a fun j hj => hf j (List.mem_cons_of_mem _ hj)
      obtain ⟨b, g1, g2, g3, g4, g5⟩ := E.own i _ e (hf i List.mem_cons_self)
      rw [h] at g1
      cases g1
      refine ⟨(k, b) :: bo, .mut g2 g3 g4 h1, by simp [mSlots, h2], fun n i' j a' y1 y2 => ?_, fun p hp => ?_⟩
      · cases n with
        | zero =>
          simp [mSlots] at y1 y2
          obtain ⟨_, rfl⟩ := y2
          subst y1
          exact ⟨h, _, e⟩
        | succ n =>
          simp only [mSlots, List.getElem?_cons_succ] at y1 y2
          exact h3 n i' j a' y1 y2
      · rcases List.mem_cons.mp hp with rfl | hp
        · exact ⟨i, List.mem_cons_self, h, _, e⟩
        · obtain ⟨i', m1, m2⟩ := h4 p hp
          exact ⟨i', List.mem_cons_of_mem _ m1, m2⟩
theorem ArgsR.chg (E : Env K A W0 H0 O W σ H ρ r) {as : List ArgV} {bs : List Bool} {vs : List V} {ds : List D} {k : Nat} (a : ArgsR K A W H σ ρ as vs ds) (l : Changes as bs) (hf : ∀ i ∈ mSlots as, Fre O i) :
    ∃ bo, AllX K A W H k bs vs ds bo ∧ bo.length = (mSlots as).length ∧ (∀ (n i j : Nat) (a : Addr), (mSlots as)[n]? = some i → bo[n]? = some (j, a) → σ[i]? = some (some (.ref a)) ∧ ∃ d, ρ[i]? = some (some d)) ∧ ∀ p ∈ bo, ∃ i ∈ mSlots as, σ[i]? = some (some (.ref p.2)) ∧ ∃ d, ρ[i]? = some (some d) := chg_core E l a hf
end
section
variable {X : Cx} {M M' : Mode} {B O O' : List Nat} {k : Nat} {f C : Addr} {fd : FuncData} {ps : List Str} {vf : VFX} {x m : Str} {p pos apos : Pos} {e o a b : Expr} {es : List Expr} {as : List ArgV} {bs : List Bool} {v1 : VT} {vm vm2 : VTM} {c1 : VTMT} {s1 s2 : VTS} {sts els : List Stmt} {i : Nat}
theorem vsm_set {y : Str} {pos' : Pos} (hN : X.N.Nodup) (hi : X.N[i]? = some y) (hx : Loc X.env.scope y) (he : VEm X O e vm) (n : i ∉ O := by decide) (hs : swapsWith e (some (.Name y pos')) pos.line X.env = pure false := by rfl) (hf : X.fn y = true ∨ X.env.scope.names.lookup y = some .local := by first | exact .inl rfl | exact .inr rfl | assumption) :
    VS X M B O O (.Assign [.Name y pos'] e pos) (vSetM i vm) := PS.imp (ps_set hN hi hx he hs hf) fun D σ H q => by
  obtain ⟨A, W0, H0, W, ρ, r, N, E, q, kn, kr, kb, kc⟩ := q
  exact ⟨A, W0, H0, W, ρ, r, _, E, q, fun d ρ1 r1 q1 v H1 W1 s1 al1 E1 m1 => kn _ r1 q1 _ H1 W1 (E1.set n m1) s1⟩
end
end Sn
namespace Sn
open PySem PySem.Spec PyProof.Rows L2
/-- P follows from Q, found by P's shape -/
class St (P : Prop) (Q : outParam Prop) : Prop where
  go : Q → P
section
variable {ρ : En} {r : Rs} {Q : D → Rs → Prop} {QB : Bool → Rs → Prop} {QA : List D → Rs → Prop} {N : VN} {s t : VTS} {v va vb vc v1 v2 v3 : VT} {c c1 c2 : VTT} {vs : VTA} {i j l : Nat} {d e : D} {R : D → Prop}
instance  : St (vSeq s t N ρ r) (s ⟨fun ρ' r' => t N ρ' r', N.rt, N.bk, N.ct⟩ ρ r) := ⟨fun q => i_seq q⟩
instance  : St (vSet i v N ρ r) (v ρ r fun d r1 => N.nx (ρ.set i (some d)) r1) := ⟨fun q => i_set q⟩
instance  : St (vSetO i v N ρ r) (v ρ r fun d r1 => isMut d = true ∧ N.nx (ρ.set i (some d)) r1) := ⟨fun q => i_setO q⟩
instance  : St (vDrop v N ρ r) (v ρ r fun _ r1 => N.nx ρ r1) := ⟨fun q => i_drop q⟩
instance  : St (vRet v N ρ r) (v ρ r fun d r1 => N.rt d r1) := ⟨fun q => i_ret q⟩
instance  : St (vRetN N ρ r) (N.rt .none r) := ⟨fun q => i_retN q⟩
instance  : St (vIfS c s t N ρ r) (c ρ r fun b r1 => if b = true then s N ρ r1 else t N ρ r1) := ⟨fun q => i_ifS q⟩
instance  : St (vBreak N ρ r) (N.bk ρ r) := ⟨fun q => i_break q⟩
instance  : St (vCont N ρ r) (N.ct ρ r) := ⟨fun q => i_cont q⟩
instance  : St (vNext N ρ r) (N.nx ρ r) := ⟨fun q => i_next q⟩
instance  : St (vPar2 i j vs N ρ r) (vs ρ r fun ds r1 => ∃ d e, ds = [d, e] ∧ N.nx ((ρ.set i (some d)).set j (some e)) r1) := ⟨fun q => i_par2 q⟩
instance  : St (vPar3 i j l vs N ρ r) (vs ρ r fun ds r1 => ∃ d e f, ds = [d, e, f] ∧ N.nx (((ρ.set i (some d)).set j (some e)).set l (some f)) r1) := ⟨fun q => i_par3 q⟩
instance {t : Tgt} : St (vAsgT t v N ρ r) (v ρ r fun d r1 => vBind t d ρ fun ρ' => N.nx ρ' r1) := ⟨fun q => i_asgT q⟩
instance  : St (vC d ρ r Q) (Q d r) := ⟨fun q => i_c q⟩
instance {f : D → D → (D → Prop) → Prop} : St (vOp f va vb ρ r Q) (va ρ r fun d r1 => vb ρ r1 fun e r2 => f d e fun z => Q z r2) := ⟨fun q => i_op q⟩
instance {f : D → (D → Prop) → Prop} : St (vUn f va ρ r Q) (va ρ r fun d r1 => f d fun z => Q z r1) := ⟨fun q => i_un q⟩
instance  : St (vNil ρ r QA) (QA [] r) := ⟨fun q => i_nil q⟩
instance  : St (vCons v vs ρ r QA) (v ρ r fun d r1 => vs ρ r1 fun ds r2 => QA (d :: ds) r2) := ⟨fun q => i_cons q⟩
instance  : St (vTup vs ρ r Q) (vs ρ r fun ds r1 => ds.length ≤ sizeLine ∧ Q (.tuple ds) r1) := ⟨fun q => i_tup q⟩
instance  : St (vLst vs ρ r Q) (vs ρ r fun ds r1 => ds.length ≤ sizeLine ∧ Q (.list ds) r1) := ⟨fun q => i_lst q⟩
instance {f : List D → (D → Prop) → Prop} : St (vCB f vs ρ r Q) (vs ρ r fun ds r1 => f ds fun z => Q z r1) := ⟨fun q => i_cb q⟩
instance  : St (vIf c va vb ρ r Q) (c ρ r fun b r1 => if b = true then va ρ r1 Q else vb ρ r1 Q) := ⟨fun q => i_if q⟩
instance  : St (vAndV va vb ρ r Q) (va ρ r fun x r1 => ∃ c, x = .bool c ∧ if c = true then vb ρ r1 Q else Q (.bool false) r1) := ⟨fun q => i_andV q⟩
instance  : St (vOrV va vb ρ r Q) (va ρ r fun x r1 => ∃ c, x = .bool c ∧ if c = true then Q (.bool true) r1 else vb ρ r1 Q) := ⟨fun q => i_orV q⟩
instance  : St (vNotV va ρ r Q) (va ρ r fun x r1 => ∃ c, x = .bool c ∧ Q (.bool (!c)) r1) := ⟨fun q => i_notV q⟩
instance  : St (vB va ρ r QB) (va ρ r fun x r1 => ∃ c, x = .bool c ∧ QB c r1) := ⟨fun q => i_b q⟩
instance  : St (vAnd c1 c2 ρ r QB) (c1 ρ r fun c r1 => if c = true then c2 ρ r1 QB else QB false r1) := ⟨fun q => i_and q⟩
instance  : St (vOr c1 c2 ρ r QB) (c1 ρ r fun c r1 => if c = true then QB true r1 else c2 ρ r1 QB) := ⟨fun q => i_or q⟩
instance  : St (vNot c1 ρ r QB) (c1 ρ r fun c r1 => QB (!c) r1) := ⟨fun q => i_not q⟩
instance {vf : VF} : St (vCall vf vs ρ r Q) (vs ρ r fun ds r1 => vf ds r1 Q) := ⟨fun q => i_call q⟩
instance {ty : D → Prop} {f : D → List D → (D → Prop) → Prop} : St (vMt ty f v vs ρ r Q) (v ρ r fun d r1 => ty d ∧ vs ρ r1 fun ds r2 => f d ds fun z => Q z r2) := ⟨fun q => i_mt q⟩
instance {lo hi : VTO} : St (vSl v lo hi ρ r Q) (v ρ r fun d r1 => lo ρ r1 fun l r2 => hi ρ r2 fun u r3 => dSl d l u fun z => Q z r3) := ⟨fun q => i_sl q⟩
instance {Q : Option Int → Rs → Prop} : St (vNoPart ρ r Q) (Q none r) := ⟨fun q => i_noPart q⟩
instance {Q : Option Int → Rs → Prop} : St (vPart v ρ r Q) (v ρ r fun d r1 => ∃ i, d = .int i ∧ Q (some i) r1) := ⟨fun q => i_part q⟩
instance {T : String} : St (vIsi T v ρ r Q) (v ρ r fun d r1 => ∃ n, tyN d = some n ∧ Q (.bool (isTy1 T n)) r1) := ⟨fun q => i_isi q⟩
instance {f g : D → D → (D → Prop) → Prop} : St (vChain f g va vb vc ρ r Q) (va ρ r fun d r1 => vb ρ r1 fun e r2 => f d e fun t => ∃ k, t = .bool k ∧ if k = true then vc ρ r2 fun h r3 => g e h fun z => Q z r3 else Q (.bool false) r2) := ⟨fun q => i_chain q⟩
instance  : St (vGet2 v1 v2 v3 ρ r Q) (v1 ρ r fun d r1 => (∃ kvs, d = .dict kvs ∧ isTok kvs = false) ∧ v2 ρ r1 fun k r2 => v3 ρ r2 fun e r3 => dGet2 d k e fun z => Q z r3) := ⟨fun q => i_get2 q⟩
instance {ts : List (VT × VT)} : St (vDisp ts ρ r Q) (vPairs ts ρ r fun ps r1 => dDispQ ps fun z => Q z r1) := ⟨fun q => i_disp q⟩
instance {QP : List (D × D) → Rs → Prop} : St (vPairs [] ρ r QP) (QP [] r) := ⟨fun q => i_pnil q⟩
instance {QP : List (D × D) → Rs → Prop} {vk vv : VT} {ts : List (VT × VT)} : St (vPairs ((vk, vv) :: ts) ρ r QP) (vk ρ r fun k r1 => vv ρ r1 fun d r2 => vPairs ts ρ r2 fun ps r3 => QP ((k, d) :: ps) r3) := ⟨fun q => i_pcons q⟩
instance {QJ : Str → Rs → Prop} {acc : Str} : St (vJs [] acc ρ r QJ) (QJ acc r) := ⟨fun q => i_jnil q⟩
instance {QJ : Str → Rs → Prop} {acc : Str} {ts : List VT} : St (vJs (v :: ts) acc ρ r QJ) (v ρ r fun d r1 => ∃ y : Str, d = .str y ∧ (acc ++ y).length ≤ sizeLine ∧ vJs ts (acc ++ y) ρ r1 QJ) := ⟨fun q => i_jcons q⟩
instance {vi : VTI} {t : Tgt} : St (vFor vi t s N ρ r) (vi ρ r fun ds r1 => vLoop t s ds N ρ r1) := ⟨fun q => i_for q⟩
instance  : St (vSeqI v ρ r QA) (v ρ r fun d r1 => dSeq d fun ds => QA ds r1) := ⟨fun q => i_seqI q⟩
instance  : St (vRng1 vs ρ r QA) (vs ρ r fun ds r1 => ∃ j, ds = [.int j] ∧ -(2 ^ 62) ≤ j ∧ j < 2 ^ 62 ∧ QA (rngD 0 j.toNat) r1) := ⟨fun q => i_rng1 q⟩
instance  : St (vRng2 vs ρ r QA) (vs ρ r fun ds r1 => ∃ i j, ds = [.int i, .int j] ∧ (-(2 ^ 62) ≤ i ∧ i < 2 ^ 62 ∧ -(2 ^ 62) ≤ j ∧ j < 2 ^ 62) ∧ QA (rngD i (j - i).toNat) r1) := ⟨fun q => i_rng2 q⟩
instance {ws : List Nat} {vi : VTI} {t : Tgt} : St (vLc ws vi t c v ρ r Q) (vi ρ r fun ds r1 => ds.length ≤ sizeLine ∧ vLcGo t c v (wipeE ρ ws) ds r1 fun zs r2 => Q (.list zs) r2) := ⟨fun q => i_lc q⟩
instance {ds : List D} {Q : List D → Prop} : St (dSeq (.list ds) Q) (Q ds) := ⟨fun q => i_dseqL q⟩
instance {ds : List D} {Q : List D → Prop} : St (dSeq (.tuple ds) Q) (Q ds) := ⟨fun q => i_dseqT q⟩
instance {z : Str} {Q : List D → Prop} : St (dSeq (.str z) Q) (Q (strD z)) := ⟨fun q => i_dseqS q⟩
instance {Q : En → Prop} : St (vBind (.nm i) d ρ Q) (Q (ρ.set i (some d))) := ⟨fun q => i_bind1 q⟩
instance {Q : En → Prop} {d e : D} : St (vBind (.tp [i, j]) (.tuple [d, e]) ρ Q) (Q ((ρ.set i (some d)).set j (some e))) := ⟨fun q => i_bind2 q⟩
instance {Q : En → Prop} {d e f : D} : St (vBind (.tp [i, j, l]) (.tuple [d, e, f]) ρ Q) (Q (((ρ.set i (some d)).set j (some e)).set l (some f))) := ⟨fun q => i_bind3 q⟩
instance {P : Bool → Prop} {b : Bool} : St (∃ c, (.bool b : D) = .bool c ∧ P c) (P b) := ⟨fun q => i_exb q⟩
instance {P : Int → Prop} {i : Int} : St (∃ c, (.int i : D) = .int c ∧ P c) (P i) := ⟨fun q => i_exi q⟩
instance {P : Str → Prop} {i : Str} : St (∃ c, (.str i : D) = .str c ∧ P c) (P i) := ⟨fun q => i_exs q⟩
instance {P : D → D → Prop} {d e : D} : St (∃ x y, [d, e] = [x, y] ∧ P x y) (P d e) := ⟨fun q => i_ex2 q⟩
instance {P : D → D → D → Prop} {d e f : D} : St (∃ x y z, [d, e, f] = [x, y, z] ∧ P x y z) (P d e f) := ⟨fun q => i_ex3 q⟩
instance {A B : Prop} : St (if true = true then A else B) (A) := ⟨fun q => i_tt q⟩
instance {A B : Prop} : St (if false = true then A else B) (B) := ⟨fun q => i_ff q⟩
instance {A B : Prop} : St (if (!true) = true then A else B) (B) := ⟨fun q => i_ntt q⟩
instance {A B : Prop} : St (if (!false) = true then A else B) (A) := ⟨fun q => i_nff q⟩
instance {x y : Int} : St (dEq false (.int x) (.int y) R) (R (.bool (decide (x = y)))) := ⟨fun q => i_eqI q⟩
instance {x y : Int} : St (dEq true (.int x) (.int y) R) (R (.bool (!decide (x = y)))) := ⟨fun q => i_neI q⟩
instance {g : Int → Int → Bool} {s : Str → Str → Bool} {x y : Int} : St (dCmp g s (.int x) (.int y) R) (R (.bool (g x y))) := ⟨fun q => i_cmpI q⟩
instance {g : Int → Int → D} {x y : Int} : St (dI0 g (.int x) (.int y) R) (R (g x y)) := ⟨fun q => i_I0 q⟩
instance {x y : Int} : St (dAdd (.int x) (.int y) R) (R (.int (x + y))) := ⟨fun q => i_addI q⟩
instance {A : Prop} : St (([] : List D).length ≤ sizeLine ∧ A) (A) := ⟨fun q => i_sz0 q⟩
instance {A : Prop} : St ([d].length ≤ sizeLine ∧ A) (A) := ⟨fun q => i_sz1 q⟩
instance {A : Prop} : St ([d, e].length ≤ sizeLine ∧ A) (A) := ⟨fun q => i_sz2 q⟩
instance {A : Prop} {f : D} : St ([d, e, f].length ≤ sizeLine ∧ A) (A) := ⟨fun q => i_sz3 q⟩
instance {A : Prop} {ds : List D} : St (isMut (.list ds) = true ∧ A) (A) := ⟨fun q => i_mutL q⟩
instance {A : Prop} {ds : List (D × D)} : St (isMut (.dict ds) = true ∧ A) (A) := ⟨fun q => i_mutD q⟩
instance {ds : List D} {lo hi : Option Int} : St (dSl (.list ds) lo hi R) (R (.list (cutL ds lo hi))) := ⟨fun q => i_slL q⟩
instance {ds : List D} {lo hi : Option Int} : St (dSl (.tuple ds) lo hi R) (R (.tuple (cutL ds lo hi))) := ⟨fun q => i_slT q⟩
instance {ds : List D} : St (dLen [.list ds] R) (R (.int ds.length)) := ⟨fun q => i_lenL q⟩
instance {ds : List D} : St (dLen [.tuple ds] R) (R (.int ds.length)) := ⟨fun q => i_lenT q⟩
instance {ds : List D} : St (dTupOf [.list ds] R) (R (.tuple ds)) := ⟨fun q => i_tupL q⟩
instance {ds : List D} : St (dTupOf [.tuple ds] R) (R (.tuple ds)) := ⟨fun q => i_tupT q⟩
instance {ds : List D} : St (dListOf [.list ds] R) (R (.list ds)) := ⟨fun q => i_listL q⟩
instance {ds : List D} : St (dListOf [.tuple ds] R) (R (.list ds)) := ⟨fun q => i_listT q⟩
instance {A : Prop} {z : Str} : St (tyD "str" (.str z) ∧ A) (A) := ⟨fun q => i_tyS q⟩
instance {A : Prop} {ds : List D} : St (tyD "list" (.list ds) ∧ A) (A) := ⟨fun q => i_tyL q⟩
instance {y : Str} : St (dLook2 [] y e R) (R e) := ⟨fun q => i_look2N q⟩
end
section
variable {ρ : En} {r : Rs} {Q : D → Rs → Prop} {N : VN} {s : VTS} {t : D → VTS} {v : VT} {c : VTT} {d : D} {i j : Nat}
instance  : St (vMatch v t N ρ r) (v ρ r fun d r1 => t d N ρ r1) := ⟨fun q => i_match q⟩
instance  : St (vcEnd d N ρ r) (N.nx ρ r) := ⟨fun q => i_cEnd q⟩
instance  : St (vAsgStar i j v N ρ r) (v ρ r fun d r1 => ∃ x xs, d = .tuple (x :: xs) ∧ N.nx ((ρ.set i (some x)).set j (some (.list xs))) r1) := ⟨fun q => i_star q⟩
instance {x : D} {xs : List D} {P : D → List D → Prop} : St (∃ y ys, (.tuple (x :: xs) : D) = .tuple (y :: ys) ∧ P y ys) (P x xs) := ⟨fun q => i_exStar q⟩
instance {A : List D} {P : List D → Prop} : St (∃ es, (.list A : D) = .list es ∧ P es) (P A) := ⟨fun q => i_exL q⟩
instance {A B : Prop} : St (if True then A else B) (A) := ⟨fun q => i_pT q⟩
instance {A B : Prop} : St (if False then A else B) (B) := ⟨fun q => i_pF q⟩
end
section
variable {ρ : En} {r : Rs} {N : VN} {v1 v2 : VT} {i j : Nat}
instance  : St (vPar2O i j v1 v2 N ρ r) (v1 ρ r fun d r1 => v2 ρ r1 fun e r2 => isMut d = true ∧ N.nx ((ρ.set i (some d)).set j (some e)) r2) := ⟨fun q => i_par2O q⟩
end
section
variable {ρ : En} {r : Rs} {N : VN} {v1 v2 v : VT} {i j : Nat}
instance  : St (vPar2FO i j v1 v2 N ρ r) (v1 ρ r fun d r1 => v2 ρ r1 fun e r2 => isMut e = true ∧ N.nx ((ρ.set i (some d)).set j (some e)) r2) := ⟨fun q => i_par2FO q⟩
instance  : St (vPar2OO i j v1 v2 N ρ r) (v1 ρ r fun d r1 => v2 ρ r1 fun e r2 => isMut d = true ∧ isMut e = true ∧ N.nx ((ρ.set i (some d)).set j (some e)) r2) := ⟨fun q => i_par2OO q⟩
end
end Sn
namespace Sn
open PySem PySem.Spec PyProof.Rows L2
/-- C(..), by an own __init__ -/
def vMake (C : Addr) (vf : VFX) (as : List ArgV) : VT := fun ρ r Q => vArgs as ρ r fun ds r1 => vf (dIns C [] :: ds) r1 fun d es r2 => d = .none ∧ ∃ s, es = [s] ∧ isMut s = true ∧ Q s r2
def putFd (f : Str) (d : D) : List (Str × D) → List (Str × D)
  | [] => [(f, d)]
  | (g, x) :: r => if g = f then (g, d) :: r else (g, x) :: putFd f d r
def vSetF (i : Nat) (C : Addr) (f : Str) (v : VT) : VTS := fun N ρ r => v ρ r fun d r1 => ∃ fs, ρ[i]? = some (some (dIns C fs)) ∧ fs.length < 1000 ∧ N.nx (ρ.set i (some (dIns C (putFd f d fs)))) r1
def vItemX (C : Addr) (vf : VFX) (i : Nat) (vk vv : VT) : VTS := fun N ρ r => vv ρ r fun d r1 => ∃ fs, ρ[i]? = some (some (dIns C fs)) ∧ vk ρ r1 fun kk r2 => vf [dIns C fs, kk, d] r2 fun _ es r3 => N.nx (setAll ρ [i] es) r3
def vDput (i : Nat) (vk vv : VT) : VTS := fun N ρ r => vv ρ r fun d r1 => ∃ kvs, ρ[i]? = some (some (.dict kvs)) ∧ isTok kvs = false ∧ (kvs.map (·.1)).Nodup ∧ vk ρ r1 fun kk r2 => ∃ key, keyOfD kk = some key ∧ kvs.length < sizeLine ∧ N.nx (ρ.set i (some (.dict (putD kvs key d)))) r2
section
variable {K : PySem.W.Frag} {A : Amb} {W : Addr → Prop} {H : Hp}
theorem DwF.put {f : Str} {v : V} {d : D} (h : Dw K A W H v d) : ∀ {xs : List (Str × V)} {ds : List (Str × D)}, DwF K A W H xs ds → DwF K A W H (putF f v xs) (putFd f d ds)
  | _, _, .nil => .cons h .nil
  | _, _, .cons (k := g) h' a => by
    unfold putF putFd
    split
    · exact .cons h a
    · exact .cons h' (DwF.put h a)
theorem DwK.keys : ∀ {xs : List (Key × V)} {ds : List (D × D)}, DwK K A W H xs ds → ds.map (·.1) = (xs.map (·.1)).map keyD
  | _, _, .nil => rfl
  | _, _, .cons _ a => by simp only [List.map_cons, a.keys]
theorem nodup_map {α β : Type} {f : α → β} : ∀ {l : List α}, (l.map f).Nodup → l.Nodup
  | [], _ => List.nodup_nil
  | a :: l, h => by
    simp only [List.map_cons, List.nodup_cons] at h ⊢
    exact ⟨fun z => h.1 (List.mem_map.mpr ⟨a, z, rfl⟩), nodup_map h.2⟩
theorem DwK.nd {xs : List (Key × V)} {ds : List (D × D)} (h : DwK K A W H xs ds) (nd : (ds.map (·.1)).Nodup) : (xs.map (·.1)).Nodup := by
  rw [h.keys] at nd
  exact nodup_map nd
end
section
variable {X : Cx} {M : Mode} {B O O' : List Nat} {k : Nat} {f C : Addr} {fd : FuncData} {ps : List Str} {vf : VFX} {x fn : Str} {p pos pos' : Pos} {e o : Expr} {es : List Expr} {as : List ArgV} {bs : List Bool} {v1 v2 : VT} {i : Nat}
theorem lift_make (l : Changes as bs) (nm : mSlots as = []) {E : XK} {σ : L2.St} {H : Hp} {Q : VK} (q : liftM X.K O mL (vMake C vf as) σ H Q) : tMake C (spX X.K mF (true :: bs) vf) [] E (liftArgs X.K O as) σ H Q := by
  obtain ⟨A, W0, H0, W, ρ, r, Q0, E, q, k⟩ := q
  refine ⟨A, W0, H0, W, ρ, r, _, E, q, fun ds r1 q1 us H1 W1 x1 E1 m1 => ?_⟩
  intro x dx hx hdx ne
  rw [List.append_nil]
  have hxd : x ≠ dx := fun z => ne z.symm
  have na : (upd H1 dx (.own x)) x = none := by rw [upd_ne hxd]; exact hx
  have ea : (upd (upd H1 dx (.own x)) x (.ins C dx [])) dx = some (.own x) := by rw [upd_ne ne, upd_same]
  have xa : Ext X.K A W1 H1 (wPlus W1 dx) (upd (upd H1 dx (.own x)) x (.ins C dx [])) := ((Ext.new hdx).trans (Ext.new na)).plus hdx
  have Ec : Env X.K A W0 H0 O (wPlus W1 dx) σ (upd (upd H1 dx (.own x)) x (.ins C dx [])) ρ r1 := ((E1.new hdx).new na).plus (E1.res.uNew hdx) (by rw [ea]; intro z; cases z) (E1.h0 hdx) (E1.fresh hdx)
  have mo : Own X.K A (wPlus W1 dx) (upd (upd H1 dx (.own x)) x (.ins C dx [])) x (dIns C []) := .ins (.inr rfl) upd_same ea .nil
  have mw : ¬ wPlus W1 dx x := fun z => z.elim (E1.nw hx) hxd
  obtain ⟨bo, h1, h2, _, _⟩ := (m1.st xa E1.res.av).chg Ec (k := 1) l (by rw [nm]; simp)
  rw [nm] at h2
  have h2 : bo = [] := List.eq_nil_of_length_eq_zero h2
  subst h2
  refine ⟨A, _, _, r1, _, [(0, x)], Ec.res, .mut mo mw (E1.res.uNew hx) h1, by simp, q1, fun d es r2 q2 v H3 W3 x3 R3 b3 m3 => ?_⟩
  obtain ⟨rfl, s, rfl, hs, q2⟩ := q2
  cases m3
  refine ⟨rfl, ?_⟩
  cases b3 with
  | cons so sw _ =>
    have x4 : Ext X.K A W1 H1 W3 H3 := by
      refine ⟨fun a o u e => ?_, fun a e => xa.al a (x3.al a e), fun a xs e => x3.tp a xs (xa.tp a xs e), fun a w => x3.wk a (xa.wk a w), fun a w => ?_⟩
      · refine x3.fr a o (fun z => ?_) (xa.fr a o u e)
        rcases Amb.bowU.mp z with z | z
        · exact u z
        · simp at z
          rw [z, hx] at e
          cases e
      · rcases x3.wn a w with w | w
        · exact xa.wn a w
        · exact .inr (xa.al a w)
    exact k s r2 q2 _ H3 W3 (x1.trans x4) (E1.ext x4 R3) (.inl ⟨hs, x, rfl, so, sw, E1.res.uNew hx, x1.al x hx⟩)
/-- self.f = value -/
theorem vs_setF (c : Cls X.K C) (n : NoAttr X.K C fn) (ho : PE X o (tVar i)) (hv : VE X O e v1) (hi : Fre O i := by decide) (hs : swapsWith e (some (.Attribute o fn pos')) pos.line X.env = pure false := by rfl) :
    VS X M B O O (.Assign [.Attribute o fn pos'] e pos) (vSetF i C fn v1) := PS.imp (ps_fld ho hv hs) fun D σ H q => by
  obtain ⟨A, W0, H0, W, ρ, r, N, E, q, kn, kr, kb, kc⟩ := q
  refine ⟨A, W0, H0, W, ρ, r, _, E, q, fun d r1 q1 v H1 W1 x1 E1 m1 => ?_⟩
  obtain ⟨fs, hd, hl, q1⟩ := q1
  obtain ⟨a, h1, h2, h3, h4, h5⟩ := E1.own i _ hd hi
  obtain ⟨dx, xs, ha, hw, hdx, hx⟩ := h2.insD rfl
  refine ⟨_, h1, a, C, dx, xs, rfl, ha, c, n, by rw [hx.len]; exact hl, ?_⟩
  have st := E1.mutS (o' := .ins C dx (putF fn v xs)) hi hd h1
  refine kn _ r1 q1 σ _ W1 (E1.mut hi hd h1 fun _ => ?_) ((x1.stp E.res.av).trans st)
  have ne : dx ≠ a := fun z => by rw [z, ha] at hdx; cases hdx
  exact .ins hw upd_same (by rw [upd_ne ne]; exact hdx) (DwF.mov st.wk st.wl st.tp (hx.put m1))
end
end Sn
namespace Sn
open PySem PySem.Spec PyProof.Rows L2
/-- the same but that the dict at a is locked or not -/
structure SL (a : Addr) (xs : List (Key × V)) (H H' : Hp) : Prop where
  ne : ∀ b, b ≠ a → H' b = H b
  h : IsK H a xs
  h' : IsK H' a xs
theorem SL.sym {a : Addr} {xs : List (Key × V)} {H H' : Hp} (s : SL a xs H H') : SL a xs H' H := ⟨fun b n => (s.ne b n).symm, s.h', s.h⟩
theorem IsK.inj {a : Addr} {xs ys : List (Key × V)} {H : Hp} (h : IsK H a xs) (g : IsK H a ys) : xs = ys := by
  rcases h with h | ⟨o, h⟩ <;> rcases g with g | ⟨u, g⟩ <;> (rw [h] at g; cases g) <;> rfl
section
variable {K : PySem.W.Frag} {A : Amb} {W W' W0 : Addr → Prop} {H H' H0 : Hp} {a : Addr} {xs : List (Key × V)} {r : Rs}
theorem SL.at_ {b : Addr} {o : HO} (s : SL a xs H H') (e : H b = some o) (n : ∀ ys u, o ≠ .dK ys ∧ o ≠ .frz u (.dK ys)) : H' b = some o := by
  by_cases q : b = a
  · subst q
    rcases s.h with h | ⟨u, h⟩
    · rw [h] at e; cases e; exact absurd rfl (n xs default).1
    · rw [h] at e; cases e; exact absurd rfl (n xs u).2
  · rw [s.ne b q]; exact e
theorem SL.tup {b : Addr} {ys : List V} (s : SL a xs H H') (h : SqT K H b ys) : SqT K H' b ys := by
  rcases h with (h | ⟨u, h⟩) | h
  · exact .inl (.inl (s.at_ h fun _ _ => ⟨fun z => (by cases z), fun z => (by cases z)⟩))
  · exact .inl (.inr ⟨u, s.at_ h fun _ _ => ⟨fun z => (by cases z), fun z => (by cases z)⟩⟩)
  · exact .inr h
theorem SL.isK {b : Addr} {ys : List (Key × V)} (s : SL a xs H H') (h : IsK H b ys) : IsK H' b ys := by
  by_cases q : b = a
  · subst q
    rw [h.inj s.h]
    exact s.h'
  · unfold IsK
    rw [s.ne b q]
    exact h
theorem SL.none {b : Addr} (s : SL a xs H H') (h : H' b = none) : H b = none := by
  by_cases q : b = a
  · subst q; exact absurd h s.h'.some
  · rw [← s.ne b q]; exact h
mutual
theorem Dw.sl (s : SL a xs H H') : ∀ {v : V} {d : D}, Dw K A W H v d → Dw K A W H' v d
  | _, _, .non => .non
  | _, _, .bl b => .bl b
  | _, _, .int i => .int i
  | _, _, .str z => .str z
  | _, _, .tup h q => .tup (s.tup h) (DwA.sl s q)
  | _, _, .lst w h q => .lst w (s.at_ h fun _ _ => ⟨fun z => (by cases z), fun z => (by cases z)⟩) (DwA.sl s q)
  | _, _, .dk w h q => .dk w (s.isK h) (DwK.sl s q)
  | _, _, .st => .st
  | _, _, .scr => .scr
  | _, _, .cell h => .cell h
  | _, _, .obj b => .obj b
  | _, _, .ins w w2 h h2 q => .ins w w2 (s.at_ h fun _ _ => ⟨fun z => (by cases z), fun z => (by cases z)⟩) (s.at_ h2 fun _ _ => ⟨fun z => (by cases z), fun z => (by cases z)⟩) (DwF.sl s q)
theorem DwA.sl (s : SL a xs H H') : ∀ {v : List V} {d : List D}, DwA K A W H v d → DwA K A W H' v d
  | _, _, .nil => .nil
  | _, _, .cons h q => .cons (Dw.sl s h) (DwA.sl s q)
theorem DwK.sl (s : SL a xs H H') : ∀ {v : List (Key × V)} {d : List (D × D)}, DwK K A W H v d → DwK K A W H' v d
  | _, _, .nil => .nil
  | _, _, .cons h q => .cons (Dw.sl s h) (DwK.sl s q)
theorem DwF.sl (s : SL a xs H H') : ∀ {v : List (Str × V)} {d : List (Str × D)}, DwF K A W H v d → DwF K A W H' v d
  | _, _, .nil => .nil
  | _, _, .cons h q => .cons (Dw.sl s h) (DwF.sl s q)
end
theorem Own.sl {b : Addr} {d : D} (s : SL a xs H H') (h : Own K A W H b d) (n : b ≠ a) : Own K A W H' b d := by
  cases h with
  | lst h q => exact .lst (by rw [s.ne b n]; exact h) (DwA.sl s q)
  | dk h q => exact .dk (by rw [s.ne b n]; exact h) (DwK.sl s q)
  | ins w h h2 q => exact .ins w (by rw [s.ne b n]; exact h) (s.at_ h2 fun _ _ => ⟨fun z => (by cases z), fun z => (by cases z)⟩) (DwF.sl s q)
theorem Cel.sl {b : Addr} {d : D} (s : SL a xs H H') (h : Cel K A W H b d) (n : b ≠ a) : Cel K A W H' b d := by
  cases h with
  | own h => exact .own (h.sl s n)
  | tb h =>
    obtain ⟨ps, h1, h2, h3⟩ := h
    refine .tb ⟨ps, by rw [s.ne b n]; exact h1, h2, fun pos cv hc => ?_⟩
    obtain ⟨c, e, w, hcd⟩ := h3 pos cv hc
    exact ⟨c, e, w, s.at_ hcd fun _ _ => ⟨fun z => (by cases z), fun z => (by cases z)⟩⟩
theorem OwnL.sl {b : Addr} {d : D} (s : SL a xs H H') (h : OwnL K A W H b d) : OwnL K A W H' b d := by
  by_cases n : b = a
  · subst n
    have key : ∀ {ys : List (Key × V)} {ds : List (D × D)}, IsK H b ys → DwK K A W H ys ds → OwnL K A W H' b (.dict ds) := fun {ys ds} g q => by
      rw [g.inj s.h] at q
      rcases s.h' with g' | ⟨o, g'⟩
      · exact .own (.dk g' (DwK.sl s q))
      · exact .lk g' (DwK.sl s q)
    cases h with
    | own h =>
      cases h with
      | lst h q => rcases s.h with g | ⟨o, g⟩ <;> (rw [g] at h; cases h)
      | dk h q => exact key (.inl h) q
      | ins w h h2 q => rcases s.h with g | ⟨o, g⟩ <;> (rw [g] at h; cases h)
    | lk h q => exact key (.inr ⟨_, h⟩) q
  · cases h with
    | own h => exact .own (h.sl s n)
    | lk h q => exact .lk (by rw [s.ne b n]; exact h) (DwK.sl s q)
theorem Res.lkd (s : SL a xs H H') (R : Res K A W H r) (u : ¬ A.U a) : Res K A W H' r := by
  have ne : ∀ {b}, A.U b → b ≠ a := fun {b} q z => u (by rw [← z]; exact q)
  obtain ⟨⟨l, t, g0, g1, g2⟩, ⟨ns, g3⟩, ⟨ms, g4⟩, g5⟩ := R.dr
  refine ⟨⟨⟨l, t, g0, g1, by rw [s.ne _ (ne (.inl rfl))]; exact g2⟩, ⟨ns, by rw [s.ne _ (ne (.inr (.inl rfl)))]; exact g3⟩, ⟨ms, by rw [s.ne _ (ne (.inr (.inr (.inl rfl))))]; exact g4⟩, g5⟩, R.sc.mov (fun sk o q => by rw [s.ne _ (ne (.inr (.inr (.inr (.inr ⟨sk, rfl⟩)))))]; exact q), R.sl, R.sg, R.le,
    fun n b d e1 e2 => (R.ce n b d e1 e2).sl s (ne (.inr (.inr (.inr (.inl (List.mem_of_getElem? e1)))))), R.nd, R.na, R.av, fun b w e => R.wa b w (s.none e)⟩
/-- the thing at a is o, if there is one -/
def laidO (H : Hp) (a : Addr) (o : HO) : Hp := fun b => if b = a then (H a).map fun _ => o else H b
theorem laid_ne {b : Addr} {o : HO} (n : b ≠ a) : laidO H a o b = H b := by unfold laidO; rw [if_neg n]
theorem laid_none {b : Addr} {o : HO} : laidO H a o b = none ↔ H b = none := by
  by_cases n : b = a
  · subst n
    unfold laidO
    rw [if_pos rfl]
    cases H b <;> simp
  · rw [laid_ne n]
theorem laid_at {o u : HO} (h : laidO H a o a = some u) : u = o ∧ H a ≠ none := by
  unfold laidO at h
  rw [if_pos rfl] at h
  cases e : H a with
  | none => rw [e] at h; cases h
  | some x =>
    rw [e] at h
    cases h
    exact ⟨rfl, fun z => by cases z⟩
theorem Ext.sl {o : HO} (s : SL a xs H H') (ho : H' a = some o) (x : Ext K A W0 H0 W H) : Ext K A W0 (laidO H0 a o) W H' where
  fr := fun b u nu e => by
    by_cases n : b = a
    · subst n
      rw [(laid_at e).1]
      exact ho
    · rw [laid_ne n] at e
      rw [s.ne b n]
      exact x.fr b u nu e
  al := fun b e => laid_none.mpr (x.al b (s.none e))
  tp := fun b ys h => by
    have nt : ∀ {u : HO}, H' a = some u → ∀ zs w, u ≠ .tup zs ∧ u ≠ .frz w (.tup zs) := fun {u} e zs w => by
      rcases s.h' with g | ⟨k, g⟩ <;> (rw [g] at e; cases e; exact ⟨fun z => (by cases z), fun z => (by cases z)⟩)
    have no := nt ho
    refine s.tup (x.tp b ys ?_)
    rcases h with (h | ⟨u, h⟩) | h
    · refine .inl (.inl ?_)
      show H0 b = _
      by_cases n : b = a
      · subst n; exact absurd (laid_at h).1.symm (no ys default).1
      · rw [← laid_ne (H := H0) (o := o) n]; exact h
    · refine .inl (.inr ⟨u, ?_⟩)
      show H0 b = _
      by_cases n : b = a
      · subst n; exact absurd (laid_at h).1.symm (no ys u).2
      · rw [← laid_ne (H := H0) (o := o) n]; exact h
    · exact .inr h
  wk := x.wk
  wn := fun b w => (x.wn b w).imp id laid_none.mpr
end
section
variable {K : PySem.W.Frag} {A : Amb} {W0 W W' : Addr → Prop} {H0 H H' : Hp} {O : List Nat} {σ : L2.St} {ρ : En} {r : Rs} {a : Addr} {xs : List (Key × V)}
theorem Env.sl {o : HO} (E : Env K A W0 H0 O W σ H ρ r) (s : SL a xs H H') (ho : H' a = some o) (u : ¬ A.U a) (nf : ∀ (i : Nat) (d : D), ρ[i]? = some (some d) → Fre O i → σ[i]? ≠ some (some (.ref a))) : Env K A W0 (laidO H0 a o) O W σ H' ρ r where
  len := E.len
  var := fun i d e n => by
    obtain ⟨v, h1, h2⟩ := E.var i d e n
    exact ⟨v, h1, h2.sl s⟩
  own := fun i d e n => by
    obtain ⟨b, h1, h2, h3, h4, h5⟩ := E.own i d e n
    exact ⟨b, h1, h2.sl s (fun z => nf i d e n (by rw [h1, z])), h3, h4, laid_none.mpr h5⟩
  rdo := fun i d e n => by
    obtain ⟨v, h1, h2, h3⟩ := E.rdo i d e n
    refine ⟨v, h1, ?_, fun b kvs e1 e2 tk z => h3 b kvs e1 e2 tk (laid_none.mp z)⟩
    rcases h2 with h2 | ⟨b, e, h2, h4, h5⟩
    · exact .inl (h2.sl s)
    · exact .inr ⟨b, e, h2.sl s, h4, fun z => h5 (laid_none.mp z)⟩
  rin := E.rin
  bor := E.bor
  dis := E.dis
  res := E.res.lkd s u
  bs := E.bs.sl s ho
end
/-- a mode whose results stay so when a dict that was there is unlocked -/
class LkM (M : Mode) : Prop where
  sl : ∀ {K : PySem.W.Frag} {A : Amb} {W : Addr → Prop} {H0 H H' : Hp} {v : V} {d : D} {a : Addr} {xs : List (Key × V)}, M K A H0 W H v d → SL a xs H H' → H0 a ≠ none → (∀ p ∈ A.bo, p.2 ≠ a) → M K A H0 W H' v d
  bk : ∀ {K : PySem.W.Frag} {A : Amb} {W : Addr → Prop} {H1 Hs H : Hp} {v : V} {d : D}, M K A H1 W H v d → (∀ a, H1 a = none → Hs a = none) → M K A Hs W H v d
instance : LkM mF := ⟨fun m s _ _ => Dw.sl s m, fun m _ => m⟩
instance : LkM mL := ⟨fun m s n _ => by
  rcases m with ⟨m, b, e1, h, w, u, z⟩ | ⟨m, h⟩
  · exact .inl ⟨m, b, e1, h.sl s (fun q => n (by rw [← q]; exact z)), w, u, z⟩
  · exact .inr ⟨m, Dw.sl s h⟩, fun m e => m.bk e⟩
instance {M : Mode} [LkM M] {bp : List Nat} : LkM (mP M bp) := ⟨fun {K A W H0 H H' v d a xs} m s n nb => by
  obtain ⟨x, es, rfl, hl, hm, hk⟩ := m
  refine ⟨x, es, rfl, hl, fun Hs hs => ?_, fun k i b h1 h2 => ?_⟩
  · have m1 := hm (fun b => if b = a then some (HO.lst []) else Hs b) fun b z nz => by
      have q : b ≠ a := fun q => n (by rw [← q]; exact z)
      show (if b = a then _ else _) = _
      rw [if_neg q]
      exact hs b z nz
    refine LkM.bk (LkM.sl m1 s (by show (if a = a then _ else _) ≠ _; rw [if_pos rfl]; intro z; cases z) nb) fun b z => ?_
    have z : (if b = a then some (HO.lst []) else Hs b) = none := z
    by_cases q : b = a
    · rw [if_pos q] at z; cases z
    · rw [if_neg q] at z; exact z
  · obtain ⟨e', h3, h4, h5⟩ := hk k i b h1 h2
    exact ⟨e', h3, h4.sl s (nb _ h2), h5⟩, fun {K A W H1 Hs H v d} m e => by
  obtain ⟨x, es, rfl, hl, hm, hk⟩ := m
  exact ⟨x, es, rfl, hl, fun Hs' hs => hm Hs' fun a z nz => hs a (e a z) nz, hk⟩⟩
theorem PS.or {X : Cx} {st : Stmt} {t t' : TS} (h : PS X st t) (h' : PS X st t') : PS X st (fun D σ H => t D σ H ∨ t' D σ H) := ⟨fun pins s σ H D I q => q.elim (h.run pins s σ H D I) (h'.run pins s σ H D I)⟩
theorem PE.or {X : Cx} {e : Expr} {t t' : TE} (h : PE X e t) (h' : PE X e t') : PE X e (fun σ H Q => t σ H Q ∨ t' σ H Q) := ⟨fun pins s σ H Q I q => q.elim (h.run pins s σ H Q I) (h'.run pins s σ H Q I)⟩
/-- for x in d, d a parameter that is read alone -/
def vForK (i : Nat) (t : Tgt) (body : VTS) : VTS := fun N ρ r => ∃ kvs, ρ[i]? = some (some (.dict kvs)) ∧ isTok kvs = false ∧ vLoop t body (kvs.map (·.1)) N ρ r
end Sn
namespace Sn
open PySem PySem.Spec PyProof.Rows L2
/-- {k: z for t in ..}: acc what is made so far -/
def vDcGo (t : Tgt) (c : VTT) (vk vv : VT) (ρ : En) : List D → List (D × D) → Rs → (List (D × D) → Rs → Prop) → Prop
  | [], acc, r, Q => Q acc r
  | d :: ds, acc, r, Q => vBind t d ρ fun ρ' => c ρ' r fun b r1 => if b = true then vk ρ' r1 fun k r2 => vv ρ' r2 fun z r3 => ∃ key, keyOfD k = some key ∧ vDcGo t c vk vv ρ ds (putD acc key z) r3 Q else vDcGo t c vk vv ρ ds acc r1 Q
/-- where a thing stands that is walked: a name, or an attribute of a name's object -/
def vpVar (i : Nat) : En → (D → Prop) → Prop := fun ρ Q => ∃ d, ρ[i]? = some (some d) ∧ Q d
def vpFld (i : Nat) (C : Addr) (f : Str) : En → (D → Prop) → Prop := fun ρ Q => ∃ fs, ρ[i]? = some (some (dIns C fs)) ∧ ∃ z, fs.lookup f = some z ∧ Q z
/-- a comprehension over a dict's keys -/
def vLcD (vs : List Nat) (vp : En → (D → Prop) → Prop) (t : Tgt) (c : VTT) (v : VT) : VT := fun ρ r Q => vp ρ fun d => ∃ kvs, d = .dict kvs ∧ isTok kvs = false ∧ kvs.length ≤ sizeLine ∧ vLcGo t c v (wipeE ρ vs) (kvs.map (·.1)) r fun zs r2 => Q (.list zs) r2
def vDcD (vs : List Nat) (vp : En → (D → Prop) → Prop) (t : Tgt) (c : VTT) (vk vv : VT) : VT := fun ρ r Q => vp ρ fun d => ∃ kvs, d = .dict kvs ∧ isTok kvs = false ∧ kvs.length ≤ sizeLine ∧ vDcGo t c vk vv (wipeE ρ vs) (kvs.map (·.1)) [] r fun zs r2 => Q (.dict zs) r2
def vDc (vs : List Nat) (vi : VTI) (t : Tgt) (c : VTT) (vk vv : VT) : VT := fun ρ r Q => vi ρ r fun ds r1 => ds.length ≤ sizeLine ∧ vDcGo t c vk vv (wipeE ρ vs) ds [] r1 fun zs r2 => Q (.dict zs) r2
end Sn
namespace Sn
open PySem PySem.Spec PyProof.Rows L2
def dInK (neg : Bool) (d : D) : D → (D → Prop) → Prop
  | .dict kvs, Q => isTok kvs = false ∧ ∃ key, keyOfD d = some key ∧ Q (.bool (if neg = true then !(lookD kvs key).isSome else (lookD kvs key).isSome))
  | _, _ => False
def vRev (v : VT) : VT := fun ρ r Q => v ρ r fun d r1 => ∃ ds, d = .list ds ∧ Q (.list ds.reverse) r1
def vStar (v : VT) (vs : VTA) : VTA := fun ρ r Q => v ρ r fun d r1 => ∃ es, (d = .tuple es ∨ d = .list es) ∧ vs ρ r1 fun ds r2 => Q (es ++ ds) r2
section
variable {X : Cx} {O : List Nat} {e a : Expr} {es : List Expr} {v1 : VT} {vs : VTA} {pos p p1 p2 p3 : Pos} {k : Nat}
theorem DwA.rev {K : PySem.W.Frag} {A : Amb} {W : Addr → Prop} {H : Hp} : ∀ {xs : List V} {ds : List D}, DwA K A W H xs ds → DwA K A W H xs.reverse ds.reverse
  | _, _, .nil => .nil
  | _, _, .cons h a => by
    rw [List.reverse_cons, List.reverse_cons]
    exact (DwA.rev a).app (.cons h .nil)
theorem ve_rev (h : VB X O e v1) : VL X O (.Subscript e (.Slice none none (some (.UnaryOp .USub (.Constant (.int 1) k p1) p2)) p3) pos) (vRev v1) := PE.imp (pe_revL h) fun σ H Q q => by
  obtain ⟨A, W0, H0, W, ρ, r, Q0, E, q, k⟩ := q
  refine ⟨A, W0, H0, W, ρ, r, _, E, q, fun d r1 q1 v H1 W1 x1 E1 m1 => ?_⟩
  obtain ⟨ds, rfl, q1⟩ := q1
  obtain ⟨a, xs, rfl, ha, hx⟩ := m1.lst
  refine ⟨a, xs, rfl, SqL.of ha, fun p hp => ?_⟩
  refine k _ r1 q1 _ _ W1 (x1.trans (Ext.new hp)) (E1.new hp) (.inl ⟨rfl, p, rfl, .lst upd_same (hx.rev.ext (Ext.new hp) E1.res.av), E1.nw hp, E1.res.uNew hp, x1.al p hp⟩)
end
end Sn
namespace Sn
open PySem PySem.Spec PyProof.Rows L2
section
variable {prog : Program} {w : World} {κ : Type} [DecidableEq κ] {knd : KeyKind prog w κ} {A : Around} {E : Value → Shared → Prop} {s : Shared}
theorem Pairs.drop {es : List DictEntry} {kvs : List (κ × Value)} (h : Pairs knd es kvs) : ∀ i, Pairs knd (es.drop i) (kvs.drop i)
  | 0 => h
  | i + 1 => by
    cases h with
    | nil => exact .nil
    | cons _ _ t => exact Pairs.drop t i
end
/-- {**d, k: v} -/
def vMerge1 (v vk vv : VT) : VT := fun ρ r Q => v ρ r fun d r1 => ∃ kvs, d = .dict kvs ∧ isTok kvs = false ∧ (kvs.map (·.1)).Nodup ∧ kvs.length + 15 ≤ sizeLine ∧ vk ρ r1 fun kk r2 => vv ρ r2 fun z r3 => ∃ key, keyOfD kk = some key ∧ Q (.dict (putD kvs key z)) r3
end Sn
namespace Sn
open PySem PySem.Spec PyProof.Rows L2 PySem.Froz
/-- the set's payload holds the texts l, each once; its table rises and can be walked -/
structure SxOk (P : Program) (w : World) (D : SD) (l : List Str) : Prop where
  tx : TxOk P w D l
  ris : L2.Ris D.2.2.place.toList
  led : w.params.followText "set-order" = true ∨ D.2.2.led = true
  nd : l.Nodup
def GotX (ks : List Str) (i : Nat) (l : List Str) : Prop := (∀ x, x ∈ l ↔ x ∈ ks.take i) ∧ l.length ≤ i
section
variable {P : Program} {w : World} {A : Around} {E : Value → Shared → Prop} {s : Shared}
theorem SxOk.nil {b : Bool} (hb : w.params.followText "set-order" = true ∨ b = true) : SxOk P w (#[], 0, .fresh 0 0 b) [] :=
  ⟨TxOk.nil rfl, List.Pairwise.nil, hb, List.nodup_nil⟩
end
theorem GotX.same {ks l : List Str} {i : Nat} {x : Str} (g : GotX ks i l) (h : ks[i]? = some x) (hm : x ∈ l) : GotX ks (i + 1) l := by
  refine ⟨fun y => ?_, Nat.le_succ_of_le g.2⟩
  rw [take_next h, List.mem_append, List.mem_singleton, ← g.1 y]
  constructor
  · exact .inl
  · rintro (z | rfl)
    · exact z
    · exact hm
end Sn
namespace Sn
open PySem PySem.Spec PyProof.Rows L2 PySem.Froz
section
variable {P : Program} {w : World} {A : Around} {E : Value → Shared → Prop} {s : Shared}
theorem StrsAre.mem : ∀ {us : List Value} {xs : List Str}, StrsAre us xs → ∀ x, x ∈ xs → ∃ t, Value.str x t ∈ us
  | _, _, .nil, x, h => by cases h
  | _, _, .cons n t hr, x, h => by
    rcases List.mem_cons.mp h with e | h
    · exact ⟨t, by rw [e]; exact List.mem_cons_self ..⟩
    · obtain ⟨t', e⟩ := StrsAre.mem hr x h
      exact ⟨t', List.mem_cons_of_mem _ e⟩
end
def vSortSet (v : VT) : VT := fun ρ r Q => v ρ r fun d r1 => ∃ zs : List Str, d = .list (zs.map .str) ∧ zs.length < 64 ∧ ∀ ys : List Str, ys.Nodup → (∀ x, x ∈ ys ↔ x ∈ zs) → sortedS ys = true → Q (.list (ys.map .str)) r1
end Sn
namespace Sn
open PySem PySem.Spec PyProof.Rows L2
/-- p is no owned thing of the names -/
def NoP (O : List Nat) (p : Addr) (σ : L2.St) (ρ : En) : Prop := ∀ (i : Nat) (d : D), ρ[i]? = some (some d) → Fre O i → σ[i]? ≠ some (some (.ref p))
theorem NoP.wipe {O : List Nat} {p : Addr} {σ : L2.St} {ρ : En} (h : NoP O p σ ρ) : ∀ vs, NoP O p (L2.wipe σ vs) (wipeE ρ vs)
  | [] => h
  | v :: vs => fun i d h1 h2 h3 => by
    unfold wipeE at h1
    unfold L2.wipe at h3
    by_cases q : v = i
    · subst q
      rcases Nat.lt_or_ge v (wipeE ρ vs).length with l | l
      · rw [List.getElem?_set_self l] at h1; cases h1
      · rw [List.getElem?_eq_none (by rw [List.length_set]; exact l)] at h1; cases h1
    · rw [List.getElem?_set_ne q] at h1 h3
      exact NoP.wipe h vs i d h1 h2 h3
theorem NoP.set {O : List Nat} {p : Addr} {σ : L2.St} {ρ : En} (h : NoP O p σ ρ) {j : Nat} (n : j ∉ O) (x : Option V) (y : Option D) : NoP O p (σ.set j x) (ρ.set j y) := fun i d h1 h2 h3 => by
  have q : j ≠ i := fun q => n (by rw [q]; exact h2.1)
  rw [List.getElem?_set_ne q] at h1 h3
  exact h i d h1 h2 h3
section
variable {K : PySem.W.Frag} {A : Amb} {W0 W W' : Addr → Prop} {H0 H H' : Hp} {O : List Nat} {σ : L2.St} {ρ : En} {r r' : Rs} {v : V} {d : D} {p : Addr} {o o' : HO}
theorem Env.updN (E : Env K A W0 H0 O W σ H ρ r) (N : NoP O p σ ρ) (hw : ¬ W p) (hu : ¬ A.U p) (h : H p = some o) (ho : ∀ ys u, o ≠ .tup ys ∧ o ≠ .frz u (.tup ys)) (h0 : H0 p = none) : Env K A W0 H0 O W σ (upd H p o') ρ r where
  len := E.len
  var := fun i d e n => by
    obtain ⟨v, h1, h2⟩ := E.var i d e n
    exact ⟨v, h1, h2.mov (fun _ e => e) (fun b u w e => by rw [upd_ne (fun z => hw (by rw [← z]; exact w))]; exact e) fun b xs e => sqT_put h ho e⟩
  own := fun i d e n => by
    obtain ⟨a, h1, h2, h3, h4, h5⟩ := E.own i d e n
    exact ⟨a, h1, h2.updN hw h ho (fun z => N i d e n (by rw [h1, z])), h3, h4, h5⟩
  rdo := fun i d e n => by
    obtain ⟨v, h1, h2, hk⟩ := E.rdo i d e n
    refine ⟨v, h1, ?_, hk⟩
    rcases h2 with h2 | ⟨a, e, h2, h3, h4⟩
    · exact .inl (h2.mov (fun _ e => e) (fun b u w e => by rw [upd_ne (fun z => hw (by rw [← z]; exact w))]; exact e) fun b xs e => sqT_put h ho e)
    · exact .inr ⟨a, e, h2.mov (fun _ e => e) (fun b u w e => by rw [upd_ne (fun z => hw (by rw [← z]; exact w))]; exact e) (fun b xs e => sqT_put h ho e) fun u q => by
        rw [upd_ne (fun z => h4 (by rw [z]; exact h0))]
        exact q, h3, h4⟩
  rin := E.rin
  bor := E.bor
  dis := E.dis
  res := E.res.updN hw hu h ho
  bs := E.bs.updNew h0 h ho
end
def vLc2Go (t : Tgt) (c : VTT) (vi1 : VTI) (vs1 : List Nat) (t1 : Tgt) (c1 : VTT) (v : VT) (ρ : En) : List D → Rs → (List D → Rs → Prop) → Prop
  | [], r, Q => Q [] r
  | d :: ds, r, Q => vBind t d ρ fun ρ' => c ρ' r fun b r1 => if b = true then vi1 ρ' r1 fun es r2 => es.length ≤ 1000 ∧ vLcGo t1 c1 v (wipeE ρ' vs1) es r2 fun zs r3 => vLc2Go t c vi1 vs1 t1 c1 v ρ ds r3 fun ws r4 => Q (zs ++ ws) r4
    else vLc2Go t c vi1 vs1 t1 c1 v ρ ds r1 Q
/-- [e for t in i if c for t1 in i1 if c1] -/
def vLc2 (vs : List Nat) (vi : VTI) (t : Tgt) (c : VTT) (vi1 : VTI) (vs1 : List Nat) (t1 : Tgt) (c1 : VTT) (v : VT) : VT := fun ρ r Q => vi ρ r fun ds r1 => ds.length ≤ 1000 ∧ vLc2Go t c vi1 vs1 t1 c1 v (wipeE ρ vs) ds r1 fun zs r2 => Q (.list zs) r2
end Sn
namespace Sn
open PySem PySem.Spec PyProof.Rows L2
section
variable {ρ : En} {r : Rs} {Q : D → Rs → Prop} {QA : List D → Rs → Prop} {QM : D → En → Rs → Prop} {QB : Bool → En → Rs → Prop} {N : VN} {s t : VTS} {v vk vv v1 v2 v3 : VT} {vs : VTA} {as : List ArgV} {i : Nat} {C : Addr} {f m : Str} {vf : VF} {vx : VFX} {d : D} {R : D → Prop} {vi vi1 : VTI} {tg t1 : Tgt} {c c1 : VTT} {ws ws1 : List Nat}
instance : St (vArgs [] ρ r QA) (QA [] r) := ⟨id⟩
instance : St (vArgs (.f v :: as) ρ r QA) (v ρ r fun d r1 => vArgs as ρ r1 fun ds r2 => QA (d :: ds) r2) := ⟨id⟩
instance : St (vArgs (.l v :: as) ρ r QA) (v ρ r fun d r1 => vArgs as ρ r1 fun ds r2 => QA (d :: ds) r2) := ⟨id⟩
instance : St (vArgs (.m i :: as) ρ r QA) (∃ d, ρ[i]? = some (some d) ∧ vArgs as ρ r fun ds r2 => QA (d :: ds) r2) := ⟨id⟩
instance : St (vCallA vf as ρ r Q) (vArgs as ρ r fun ds r1 => vf ds r1 Q) := ⟨id⟩
instance : St (vMethA C m vf v1 as ρ r Q) (v1 ρ r fun d r1 => ∃ fs, d = dIns C fs ∧ fs.lookup m = none ∧ vArgs as ρ r1 fun ds r2 => vf (d :: ds) r2 Q) := ⟨id⟩
instance : St (vCallX vx as ρ r QM) (vArgs as ρ r fun ds r1 => vx ds r1 fun d es r2 => QM d (setAll ρ (mSlots as) es) r2) := ⟨id⟩
instance : St (vMethX C m vx i as ρ r QM) (∃ fs, ρ[i]? = some (some (dIns C fs)) ∧ fs.lookup m = none ∧ vArgs as ρ r fun ds r1 => vx (dIns C fs :: ds) r1 fun d es r2 => QM d (setAll ρ (i :: mSlots as) es) r2) := ⟨id⟩
instance : St (vPure v ρ r QM) (v ρ r fun d r1 => QM d ρ r1) := ⟨id⟩
instance {vm : VTM} : St (vDropM vm N ρ r) (vm ρ r fun _ ρ1 r1 => N.nx ρ1 r1) := ⟨id⟩
instance {vm : VTM} : St (vSetM i vm N ρ r) (vm ρ r fun d ρ1 r1 => N.nx (ρ1.set i (some d)) r1) := ⟨id⟩
instance {cm : VTMT} : St (vIfM cm s t N ρ r) (cm ρ r fun b ρ1 r1 => if b = true then s N ρ1 r1 else t N ρ1 r1) := ⟨id⟩
instance {vm : VTM} : St (vBM vm ρ r QB) (vm ρ r fun x ρ1 r1 => ∃ c, x = .bool c ∧ QB c ρ1 r1) := ⟨id⟩
instance {vm : VTMT} : St (vNotM vm ρ r QB) (vm ρ r fun c ρ1 r1 => QB (!c) ρ1 r1) := ⟨id⟩
instance : St (vMake C vx as ρ r Q) (vArgs as ρ r fun ds r1 => vx (dIns C [] :: ds) r1 fun d es r2 => d = .none ∧ ∃ s, es = [s] ∧ isMut s = true ∧ Q s r2) := ⟨id⟩
instance : St (vSetF i C f v N ρ r) (v ρ r fun d r1 => ∃ fs, ρ[i]? = some (some (dIns C fs)) ∧ fs.length < 1000 ∧ N.nx (ρ.set i (some (dIns C (putFd f d fs)))) r1) := ⟨id⟩
instance : St (vItemX C vx i vk vv N ρ r) (vv ρ r fun d r1 => ∃ fs, ρ[i]? = some (some (dIns C fs)) ∧ vk ρ r1 fun kk r2 => vx [dIns C fs, kk, d] r2 fun _ es r3 => N.nx (setAll ρ [i] es) r3) := ⟨id⟩
instance : St (vDput i vk vv N ρ r) (vv ρ r fun d r1 => ∃ kvs, ρ[i]? = some (some (.dict kvs)) ∧ isTok kvs = false ∧ (kvs.map (·.1)).Nodup ∧ vk ρ r1 fun kk r2 => ∃ key, keyOfD kk = some key ∧ kvs.length < sizeLine ∧ N.nx (ρ.set i (some (.dict (putD kvs key d)))) r2) := ⟨id⟩
instance : St (vForK i tg s N ρ r) (∃ kvs, ρ[i]? = some (some (.dict kvs)) ∧ isTok kvs = false ∧ vLoop tg s (kvs.map (·.1)) N ρ r) := ⟨id⟩
instance {vp : En → (D → Prop) → Prop} : St (vLcD ws vp tg c v ρ r Q) (vp ρ fun d => ∃ kvs, d = .dict kvs ∧ isTok kvs = false ∧ kvs.length ≤ sizeLine ∧ vLcGo tg c v (wipeE ρ ws) (kvs.map (·.1)) r fun zs r2 => Q (.list zs) r2) := ⟨id⟩
instance {vp : En → (D → Prop) → Prop} : St (vDcD ws vp tg c vk vv ρ r Q) (vp ρ fun d => ∃ kvs, d = .dict kvs ∧ isTok kvs = false ∧ kvs.length ≤ sizeLine ∧ vDcGo tg c vk vv (wipeE ρ ws) (kvs.map (·.1)) [] r fun zs r2 => Q (.dict zs) r2) := ⟨id⟩
instance : St (vDc ws vi tg c vk vv ρ r Q) (vi ρ r fun ds r1 => ds.length ≤ sizeLine ∧ vDcGo tg c vk vv (wipeE ρ ws) ds [] r1 fun zs r2 => Q (.dict zs) r2) := ⟨id⟩
instance : St (vpVar i ρ R) (∃ d, ρ[i]? = some (some d) ∧ R d) := ⟨id⟩
instance : St (vpFld i C f ρ R) (∃ fs, ρ[i]? = some (some (dIns C fs)) ∧ ∃ z, fs.lookup f = some z ∧ R z) := ⟨id⟩
instance : St (vRev v ρ r Q) (v ρ r fun d r1 => ∃ ds, d = .list ds ∧ Q (.list ds.reverse) r1) := ⟨id⟩
instance : St (vStar v vs ρ r QA) (v ρ r fun d r1 => ∃ es, (d = .tuple es ∨ d = .list es) ∧ vs ρ r1 fun ds r2 => QA (es ++ ds) r2) := ⟨id⟩
instance : St (vMerge1 v vk vv ρ r Q) (v ρ r fun d r1 => ∃ kvs, d = .dict kvs ∧ isTok kvs = false ∧ (kvs.map (·.1)).Nodup ∧ kvs.length + 15 ≤ sizeLine ∧ vk ρ r1 fun kk r2 => vv ρ r2 fun z r3 => ∃ key, keyOfD kk = some key ∧ Q (.dict (putD kvs key z)) r3) := ⟨id⟩
instance : St (vSortSet v ρ r Q) (v ρ r fun d r1 => ∃ zs : List Str, d = .list (zs.map .str) ∧ zs.length < 64 ∧ ∀ ys : List Str, ys.Nodup → (∀ x, x ∈ ys ↔ x ∈ zs) → sortedS ys = true → Q (.list (ys.map .str)) r1) := ⟨id⟩
instance : St (vLc2 ws vi tg c vi1 ws1 t1 c1 v ρ r Q) (vi ρ r fun ds r1 => ds.length ≤ 1000 ∧ vLc2Go tg c vi1 ws1 t1 c1 v (wipeE ρ ws) ds r1 fun zs r2 => Q (.list zs) r2) := ⟨id⟩
instance {bp : List Nat} : St (vRetP bp v N ρ r) (v ρ r fun d r1 => ∃ es, getE ρ bp = some es ∧ N.rt (dPairX d es) r1) := ⟨id⟩
instance {bp : List Nat} {QX : D → List D → Rs → Prop} : St ((endX bp QX).nx ρ r) (∃ es, getE ρ bp = some es ∧ QX .none es r) := ⟨id⟩
instance {bp : List Nat} {QX : D → List D → Rs → Prop} {es : List D} : St ((endX bp QX).rt (dPairX d es) r) (QX d es r) := ⟨fun q => ⟨_, _, rfl, q⟩⟩
theorem i_exF {fs : List (Str × D)} {P : List (Str × D) → Prop} (h : ρ[i]? = some (some (dIns C fs))) (q : P fs) : ∃ fs, ρ[i]? = some (some (dIns C fs)) ∧ P fs := ⟨fs, h, q⟩
theorem i_exD {P : D → Prop} (h : ρ[i]? = some (some d)) (q : P d) : ∃ d, ρ[i]? = some (some d) ∧ P d := ⟨d, h, q⟩
theorem i_exK {kvs : List (D × D)} {P : List (D × D) → Prop} (h : ρ[i]? = some (some (.dict kvs))) (q : P kvs) : ∃ kvs, ρ[i]? = some (some (.dict kvs)) ∧ P kvs := ⟨kvs, h, q⟩
theorem i_exI {fs : List (Str × D)} {P : List (Str × D) → Prop} (q : P fs) : ∃ gs, dIns C fs = dIns C gs ∧ P gs := ⟨fs, rfl, q⟩
theorem i_fld {fs : List (Str × D)} {z : D} (h : fs.lookup f = some z) (q : R z) : dFld C f (dIns C fs) R := ⟨fs, rfl, z, h, q⟩
theorem i_dinK {neg : Bool} {kvs : List (D × D)} (h : isTok kvs = false) (q : ∃ key, keyOfD d = some key ∧ R (.bool (if neg = true then !(lookD kvs key).isSome else (lookD kvs key).isSome))) : dInK neg d (.dict kvs) R := ⟨h, q⟩
theorem i_fs {α : Type} {fs : List α} {n : Nat} {P : Prop} (h : fs.length < n) (q : P) : fs.length < n ∧ P := ⟨h, q⟩
theorem i_exE {bp : List Nat} {es : List D} {P : List D → Prop} (h : getE ρ bp = some es) (q : P es) : ∃ es, getE ρ bp = some es ∧ P es := ⟨es, h, q⟩
instance {P : Prop} : St (True ∧ P) P := ⟨fun q => ⟨trivial, q⟩⟩
instance {P : Prop} : St (d = d ∧ P) P := ⟨fun q => ⟨rfl, q⟩⟩
theorem i_exLk {l : List (Str × D)} {z : D} {P : D → Prop} (h : l.lookup f = some z) (q : P z) : ∃ z, l.lookup f = some z ∧ P z := ⟨z, h, q⟩
theorem i_exL1 {s : D} {P : D → Prop} (q : P s) : ∃ e, [s] = [e] ∧ P e := ⟨s, rfl, q⟩
end
end Sn
namespace Sn
open PySem PySem.Spec PyProof.Rows L2
instance {ρ : En} {r : Rs} {QB : Bool → Rs → Prop} : St (vYes ρ r QB) (QB true r) := ⟨id⟩
end Sn
namespace Sn
open PySem PySem.Spec PyProof.Rows L2
def vCallD (vf : VF) (dd : List D) (va : VTA) : VT := fun ρ r Q => va ρ r fun ds r1 => vf (ds ++ dd) r1 Q
section
variable {vf : VF} {dd : List D} {vs : VTA} {ρ : En} {r : Rs} {Q : D → Rs → Prop}
instance : St (vCallD vf dd vs ρ r Q) (vs ρ r fun ds r1 => vf (ds ++ dd) r1 Q) := ⟨id⟩
end
end Sn
namespace Sn
open PySem PySem.Spec PyProof.Rows L2
section
variable {K : PySem.W.Frag} {A B : Amb} {W W' : Addr → Prop} {H H' : Hp} {r : Rs} {a : Addr} {n : Nat}
mutual
/-- .. with more cells -/
theorem Dw.grow (h1 : B.d = A.d) (h2 : B.s = A.s) (h3 : ∀ (n : Nat) (b : Addr), A.as[n]? = some b → B.as[n]? = some b) : ∀ {v : V} {d : D}, Dw K A W H v d → Dw K B W H v d
  | _, _, .non => .non
  | _, _, .bl b => .bl b
  | _, _, .int i => .int i
  | _, _, .str z => .str z
  | _, _, .tup h a => .tup h (DwA.grow h1 h2 h3 a)
  | _, _, .lst w h a => .lst w h (DwA.grow h1 h2 h3 a)
  | _, _, .dk w h a => .dk w h (DwK.grow h1 h2 h3 a)
  | _, _, .st => by rw [← h1]; exact .st
  | _, _, .scr => by rw [← h2]; exact .scr
  | _, _, .cell h => .cell (h3 _ _ h)
  | _, _, .obj a => .obj a
  | _, _, .ins w w2 h h2' a => .ins w w2 h h2' (DwF.grow h1 h2 h3 a)
theorem DwA.grow (h1 : B.d = A.d) (h2 : B.s = A.s) (h3 : ∀ (n : Nat) (b : Addr), A.as[n]? = some b → B.as[n]? = some b) : ∀ {v : List V} {d : List D}, DwA K A W H v d → DwA K B W H v d
  | _, _, .nil => .nil
  | _, _, .cons h a => .cons (h.grow h1 h2 h3) (DwA.grow h1 h2 h3 a)
theorem DwK.grow (h1 : B.d = A.d) (h2 : B.s = A.s) (h3 : ∀ (n : Nat) (b : Addr), A.as[n]? = some b → B.as[n]? = some b) : ∀ {v : List (Key × V)} {d : List (D × D)}, DwK K A W H v d → DwK K B W H v d
  | _, _, .nil => .nil
  | _, _, .cons h a => .cons (h.grow h1 h2 h3) (DwK.grow h1 h2 h3 a)
theorem DwF.grow (h1 : B.d = A.d) (h2 : B.s = A.s) (h3 : ∀ (n : Nat) (b : Addr), A.as[n]? = some b → B.as[n]? = some b) : ∀ {v : List (Str × V)} {d : List (Str × D)}, DwF K A W H v d → DwF K B W H v d
  | _, _, .nil => .nil
  | _, _, .cons h a => .cons (h.grow h1 h2 h3) (DwF.grow h1 h2 h3 a)
end
theorem Own.grow {d : D} (h1 : B.d = A.d) (h2 : B.s = A.s) (h3 : ∀ (n : Nat) (b : Addr), A.as[n]? = some b → B.as[n]? = some b) (h : Own K A W H a d) : Own K B W H a d := by
  cases h with
  | lst h q => exact .lst h (q.grow h1 h2 h3)
  | dk h q => exact .dk h (q.grow h1 h2 h3)
  | ins w h h2' q => exact .ins w h h2' (q.grow h1 h2 h3)
theorem OwnL.grow {d : D} (h1 : B.d = A.d) (h2 : B.s = A.s) (h3 : ∀ (n : Nat) (b : Addr), A.as[n]? = some b → B.as[n]? = some b) (h : OwnL K A W H a d) : OwnL K B W H a d := by
  cases h with
  | own h => exact .own (h.grow h1 h2 h3)
  | lk h q => exact .lk h (q.grow h1 h2 h3)
theorem Cel.grow {d : D} (h1 : B.d = A.d) (h2 : B.s = A.s) (h3 : ∀ (n : Nat) (b : Addr), A.as[n]? = some b → B.as[n]? = some b) (h : Cel K A W H a d) : Cel K B W H a d := by
  cases h with
  | own h => exact .own (h.grow h1 h2 h3)
  | tb h => exact .tb h
mutual
/-- data without a sign for another thing -/
def tf : D → Bool
  | .dict kvs => !isTok kvs && tfK kvs
  | .list ds => tfA ds
  | .tuple ds => tfA ds
  | _ => true
def tfA : List D → Bool
  | [] => true
  | d :: ds => tf d && tfA ds
def tfK : List (D × D) → Bool
  | [] => true
  | p :: ds => tf p.2 && tfK ds
end
mutual
theorem Dw.tfree (h : ∀ (n : Nat) (b : Addr), A.as[n]? = some b → B.as[n]? = some b ∨ True) : ∀ {v : V} {d : D}, Dw K A W H v d → tf d = true → Dw K B W H v d
  | _, _, .non, _ => .non
  | _, _, .bl b, _ => .bl b
  | _, _, .int i, _ => .int i
  | _, _, .str z, _ => .str z
  | _, _, .tup h1 a, e => .tup h1 (DwA.tfree h a (by simpa [tf] using e))
  | _, _, .lst w h1 a, e => .lst w h1 (DwA.tfree h a (by simpa [tf] using e))
  | _, _, .dk w h1 a, e => .dk w h1 (DwK.tfree h a (by simp only [tf, Bool.and_eq_true] at e; exact e.2))
  | _, _, .st, e => by simp [dSt, tf, isTok] at e
  | _, _, .scr, e => by simp [dScr, tf, isTok] at e
  | _, _, .cell _, e => by simp [dCell, tf, isTok] at e
  | _, _, .obj _, e => by simp [dRef, tf, isTok] at e
  | _, _, .ins _ _ _ _ _, e => by simp [dIns, tf, isTok] at e
theorem DwA.tfree (h : ∀ (n : Nat) (b : Addr), A.as[n]? = some b → B.as[n]? = some b ∨ True) : ∀ {v : List V} {d : List D}, DwA K A W H v d → tfA d = true → DwA K B W H v d
  | _, _, .nil, _ => .nil
  | _, _, .cons h1 a, e => .cons (Dw.tfree h h1 (by simp only [tfA, Bool.and_eq_true] at e; exact e.1)) (DwA.tfree h a (by simp only [tfA, Bool.and_eq_true] at e; exact e.2))
theorem DwK.tfree (h : ∀ (n : Nat) (b : Addr), A.as[n]? = some b → B.as[n]? = some b ∨ True) : ∀ {v : List (Key × V)} {d : List (D × D)}, DwK K A W H v d → tfK d = true → DwK K B W H v d
  | _, _, .nil, _ => .nil
  | _, _, .cons h1 a, e => .cons (Dw.tfree h h1 (by simp only [tfK, Bool.and_eq_true] at e; exact e.1)) (DwK.tfree h a (by simp only [tfK, Bool.and_eq_true] at e; exact e.2))
end
theorem Own.tfree {d : D} (h : Own K A W H a d) (e : tf d = true) : Own K B W H a d := by
  cases h with
  | lst h q => exact .lst h (q.tfree (fun _ _ _ => .inr trivial) (by simpa [tf] using e))
  | dk h q => exact .dk h (q.tfree (fun _ _ _ => .inr trivial) (by simp only [tf, Bool.and_eq_true] at e; exact e.2))
  | ins w h h2' q => simp [dIns, tf, isTok] at e
theorem Dw.cellIs {v : V} (h : Dw K A W H v (dCell n)) : ∃ a, v = .ref a ∧ A.as[n]? = some a := by
  generalize e : dCell n = d at h
  cases h with
  | cell h =>
    simp only [dCell, PyData.dict.injEq, List.cons.injEq, Prod.mk.injEq, PyData.int.injEq, true_and, and_true] at e
    have : n = _ := Int.ofNat_inj.mp e
    subst this
    exact ⟨_, rfl, h⟩
  | dk w h q =>
    cases q with
    | nil => simp [dCell] at e
    | cons h q =>
      have nk : ∀ k : Key, PyData.none ≠ keyD k := fun k => by cases k <;> (intro z; cases z)
      simp only [dCell, PyData.dict.injEq, List.cons.injEq, Prod.mk.injEq] at e
      exact absurd e.1.1 (nk _)
  | _ => simp [dCell, dSt, dScr, dRef, dIns] at e
end
def vCGet (v1 v2 : VT) : VT := fun ρ r Q => v1 ρ r fun d r1 => v2 ρ r1 fun k r2 => ∃ n kvs key z, d = dCell n ∧ r2.cs[n]? = some (.dict kvs) ∧ isTok kvs = false ∧ keyOfD k = some key ∧ lookD kvs key = some z ∧ Q z r2
def vCPut (i : Nat) (vk vv : VT) : VTS := fun N ρ r => vv ρ r fun d r1 => ∃ n, ρ[i]? = some (some (dCell n)) ∧ vk ρ r1 fun kk r2 => ∃ kvs key, r2.cs[n]? = some (.dict kvs) ∧ isTok kvs = false ∧ (kvs.map (·.1)).Nodup ∧ keyOfD kk = some key ∧ kvs.length < sizeLine ∧ N.nx ρ { r2 with cs := r2.cs.set n (.dict (putD kvs key d)) }
section
variable {X : Cx} {M : Mode} {B O O' O1 : List Nat} {a b o e : Expr} {i : Nat} {pos pos' : Pos} {v1 v2 : VT} {sts : List Stmt} {s1 : VTS}
def Amb.cel (A : Amb) (a : Addr) : Amb := { A with as := A.as ++ [a] }
theorem Amb.celU {A : Amb} {a b : Addr} : (A.cel a).U b ↔ A.U b ∨ b = a := by
  unfold Amb.U Amb.cel
  simp only [List.mem_append, List.mem_singleton]
  constructor
  · rintro (h | h | h | (h | h) | h)
    · exact .inl (.inl h)
    · exact .inl (.inr (.inl h))
    · exact .inl (.inr (.inr (.inl h)))
    · exact .inl (.inr (.inr (.inr (.inl h))))
    · exact .inr h
    · exact .inl (.inr (.inr (.inr (.inr h))))
  · rintro ((h | h | h | h | h) | h)
    · exact .inl h
    · exact .inr (.inl h)
    · exact .inr (.inr (.inl h))
    · exact .inr (.inr (.inr (.inl (.inl h))))
    · exact .inr (.inr (.inr (.inr h)))
    · exact .inr (.inr (.inr (.inl (.inr h))))
theorem Amb.celAt {A : Amb} {a : Addr} (n : Nat) (b : Addr) (h : A.as[n]? = some b) : (A.cel a).as[n]? = some b := by
  show (A.as ++ [a])[n]? = some b
  rw [List.getElem?_append_left (List.getElem?_eq_some_iff.mp h).1, h]
theorem Env.cel {K : PySem.W.Frag} {A : Amb} {W0 W : Addr → Prop} {H0 H : Hp} {σ : L2.St} {ρ : En} {r : Rs} {d : Sn.D} (E : Env K A W0 H0 O W σ H ρ r) (i : Nat) (nr : Rep O i) (hi : i ∈ O) (hd : ρ[i]? = some (some d)) :
    ∃ a, H0 a = none ∧ Env K (A.cel a) W0 H0 (O.filter (· ≠ i)) W σ H (ρ.set i (some (dCell r.cs.length))) { r with cs := r.cs ++ [d] } := by
  have nf : Fre O i := ⟨hi, nr.1⟩
  obtain ⟨a, h1, h2, h3, h4, h5⟩ := E.own i d hd nf
  have il : i < ρ.length := (List.getElem?_eq_some_iff.mp hd).1
  have gr : ∀ (n : Nat) (b : Addr), A.as[n]? = some b → (A.cel a).as[n]? = some b := Amb.celAt
  have at_ : ∀ {j : Nat} {e1 : Sn.D}, (ρ.set i (some (dCell r.cs.length)))[j]? = some (some e1) → j ≠ i → ρ[j]? = some (some e1) := fun {j e1} y q => by
    rwa [List.getElem?_set_ne (Ne.symm q)] at y
  have nU : ∀ {b : Addr}, ¬ A.U b → b ≠ a → ¬ (A.cel a).U b := fun {b} u q z => (Amb.celU.mp z).elim u q
  refine ⟨a, h5, { len := by rw [List.length_set]; exact E.len, var := fun j e1 q1 q2 => ?_, own := fun j e1 q1 q2 => ?_, rdo := fun j e1 q1 q2 => ?_, rin := fun j h => ?_, bor := fun j b h => ?_, dis := fun j k b e1 e2 q1 q2 q3 q4 q5 q6 q7 => ?_, res := ?_, bs := ?_ }⟩
  · by_cases q : j = i
    · subst q
      rw [List.getElem?_set_self il] at q1
      cases q1
      refine ⟨_, h1, .cell ?_⟩
      show (A.as ++ [a])[r.cs.length]? = some a
      rw [← E.res.le, List.getElem?_append_right (Nat.le_refl _), Nat.sub_self]
      rfl
    · obtain ⟨v, z1, z2⟩ := E.var j e1 (at_ q1 q) fun z => q2 (List.mem_filter.mpr ⟨z, by simpa using q⟩)
      exact ⟨v, z1, z2.grow (A := A) (B := A.cel a) rfl rfl gr⟩
  · obtain ⟨q3, q4⟩ := q2.filter nr
    obtain ⟨b, z1, z2, z3, z4, z5⟩ := E.own j e1 (at_ q1 q4) q3
    refine ⟨b, z1, z2.grow (A := A) (B := A.cel a) rfl rfl gr, z3, nU z4 fun y => ?_, z5⟩
    subst y
    exact E.dis j i b _ _ q3 nf q4 (at_ q1 q4) hd z1 h1
  · have q3 := (List.mem_filter.mp q2).1
    have q4 : j ≠ i := fun q => nr.1 (by rw [← q]; exact q3)
    obtain ⟨v, z1, z2, hk⟩ := E.rdo j e1 (at_ q1 q4) q3
    refine ⟨v, z1, ?_, hk⟩
    rcases z2 with z2 | ⟨b, z2, z3, z4, z5⟩
    · exact .inl (z2.grow (A := A) (B := A.cel a) rfl rfl gr)
    · exact .inr ⟨b, z2, z3.grow (A := A) (B := A.cel a) rfl rfl gr, nU z4 fun y => z5 (by rw [y]; exact h5), z5⟩
  · have h := (List.mem_filter.mp h).1
    have q : j ≠ i := fun q => nr.1 (by rw [← q]; exact h)
    exact List.mem_filter.mpr ⟨E.rin j h, by simpa using q⟩
  · obtain ⟨g1, g2, g3, g4, g5⟩ := E.bor j b h
    have q : j ≠ i := fun q => nr.2.1 (by rw [← q]; exact g2)
    exact ⟨g1.toF q, List.mem_filter.mpr ⟨g2, by have := nr.2.2; simp; omega⟩, g3, g4, by rw [List.getElem?_set_ne (Ne.symm q)]; exact g5⟩
  · have f1 := q1.filter nr
    have f2 := q2.filter nr
    exact E.dis j k b e1 e2 f1.1 f2.1 q3 (at_ q4 f1.2) (at_ q5 f2.2) q6 q7
  · have R := E.res
    have ma : a ∉ A.as := fun z => h4 (.inr (.inr (.inr (.inl z))))
    refine ⟨R.dr, R.sc, R.sl, R.sg, by show (A.as ++ [a]).length = (r.cs ++ [d]).length; simp [R.le], fun m b e g1 g2 => ?_, by show (A.as ++ [a]).Nodup; rw [List.nodup_append]; exact ⟨R.nd, by simp, fun x hx y hy => by rw [List.mem_singleton] at hy; subst hy; exact fun z => ma (z ▸ hx)⟩, ⟨fun z => ?_, fun z => ?_, fun z => ?_, fun sk z => ?_⟩, fun b w u => (Amb.celU.mp u).elim (R.av b w) fun q => h3 (q ▸ w), R.wa⟩
    · have g1 : (A.as ++ [a])[m]? = some b := g1
      by_cases hm : m < A.as.length
      · rw [List.getElem?_append_left hm] at g1
        rw [List.getElem?_append_left (by rw [← R.le]; exact hm)] at g2
        exact (R.ce m b e g1 g2).grow (A := A) (B := A.cel a) rfl rfl gr
      · rw [List.getElem?_append_right (by omega)] at g1
        rw [List.getElem?_append_right (by rw [← R.le]; omega)] at g2
        have m0 : m - A.as.length = 0 := by
          have := (List.getElem?_eq_some_iff.mp g1).1
          simp at this
          omega
        rw [m0] at g1
        rw [← R.le, m0] at g2
        cases g1
        cases g2
        exact .own (h2.grow (A := A) (B := A.cel a) rfl rfl gr)
    · rcases List.mem_append.mp (show A.d ∈ A.as ++ [a] from z) with z | z
      · exact R.na.1 z
      · rw [List.mem_singleton] at z
        exact h4 (.inl z.symm)
    · rcases List.mem_append.mp (show A.g ∈ A.as ++ [a] from z) with z | z
      · exact R.na.2.1 z
      · rw [List.mem_singleton] at z
        exact h4 (.inr (.inl z.symm))
    · rcases List.mem_append.mp (show A.c ∈ A.as ++ [a] from z) with z | z
      · exact R.na.2.2.1 z
      · rw [List.mem_singleton] at z
        exact h4 (.inr (.inr (.inl z.symm)))
    · rcases List.mem_append.mp (show A.s ∈ A.as ++ [a] from z) with z | z
      · exact R.na.2.2.2 sk z
      · rw [List.mem_singleton] at z
        exact h4 (.inr (.inr (.inr (.inr ⟨sk, z.symm⟩))))
  · exact ⟨fun b o u e => E.bs.fr b o (fun z => u (Amb.celU.mpr (.inl z))) e, E.bs.al, E.bs.tp, E.bs.wk, E.bs.wn⟩
/-- modes whose things do not hang on cells -/
class TfM (M : Mode) : Prop where
  back : ∀ {K : PySem.W.Frag} {A B : Amb} {W : Addr → Prop} {Hs H : Hp} {v : V} {d : D}, (∀ b, ¬ A.U b → ¬ B.U b) → M K A Hs W H v d → tf d = true → M K B Hs W H v d
instance : TfM mF := ⟨fun _ h e => h.tfree (fun _ _ _ => .inr trivial) e⟩
instance : TfM mL := ⟨fun u h e => h.elim (fun ⟨m, a, e1, h, w, n, z⟩ => .inl ⟨m, a, e1, h.tfree e, w, u a n, z⟩) fun ⟨m, h⟩ => .inr ⟨m, h.tfree (fun _ _ _ => .inr trivial) e⟩⟩
end
section
variable {ρ : En} {r : Rs} {Q : D → Rs → Prop} {N : VN} {v1 v2 : VT} {i n : Nat} {d : D}
instance : St (vCGet v1 v2 ρ r Q) (v1 ρ r fun d r1 => v2 ρ r1 fun k r2 => ∃ n kvs key z, d = dCell n ∧ r2.cs[n]? = some (.dict kvs) ∧ isTok kvs = false ∧ keyOfD k = some key ∧ lookD kvs key = some z ∧ Q z r2) := ⟨id⟩
instance : St (vCPut i v1 v2 N ρ r) (v2 ρ r fun d r1 => ∃ n, ρ[i]? = some (some (dCell n)) ∧ v1 ρ r1 fun kk r2 => ∃ kvs key, r2.cs[n]? = some (.dict kvs) ∧ isTok kvs = false ∧ (kvs.map (·.1)).Nodup ∧ keyOfD kk = some key ∧ kvs.length < sizeLine ∧ N.nx ρ { r2 with cs := r2.cs.set n (.dict (putD kvs key d)) }) := ⟨id⟩
end
end Sn
namespace Sn
open PySem PySem.Spec PyProof.Rows L2
section
variable {X : Cx} {M : Mode} {B O : List Nat} {a e : Expr} {vs : VTA} {v1 : VT} {p pos : Pos} {i j : Nat} {x y : Str}
/-- a, b = a list of two -/
def vAsgL2 (i j : Nat) (v : VT) : VTS := fun N ρ r => v ρ r fun d r1 => ∃ d1 d2, d = .list [d1, d2] ∧ N.nx ((ρ.set i (some d1)).set j (some d2)) r1
/-- d[k1], d[k2], d[k3] = a tuple of three, d a cell -/
def vCPut3 (i : Nat) (z1 z2 z3 : Str) (v : VT) : VTS := fun N ρ r => v ρ r fun d r1 => ∃ d1 d2 d3 n kvs, d = .tuple [d1, d2, d3] ∧ ρ[i]? = some (some (dCell n)) ∧ r1.cs[n]? = some (.dict kvs) ∧ isTok kvs = false ∧ (kvs.map (·.1)).Nodup ∧ kvs.length + 3 < sizeLine ∧
  N.nx ρ { r1 with cs := ((r1.cs.set n (.dict (putD kvs (.inr z1) d1))).set n (.dict (putD (putD kvs (.inr z1) d1) (.inr z2) d2))).set n (.dict (putD (putD (putD kvs (.inr z1) d1) (.inr z2) d2) (.inr z3) d3)) }
end
section
variable {X : Cx} {M : Mode} {B O O' : List Nat} {a b c : Expr} {v1 v2 v3 : VT} {pos px py pz pt : Pos} {i j l : Nat} {x y z : Str}
/-- a, b, c = a new list, two values -/
def vPar3O (i j l : Nat) (v1 v2 v3 : VT) : VTS := fun N ρ r => v1 ρ r fun d r1 => v2 ρ r1 fun e r2 => v3 ρ r2 fun f r3 => isMut d = true ∧ N.nx (((ρ.set i (some d)).set j (some e)).set l (some f)) r3
end
section
variable {ρ : En} {r : Rs} {Q : D → Rs → Prop} {N : VN} {v : VT} {i j : Nat}
instance {z1 z2 z3 : Str} : St (vCPut3 i z1 z2 z3 v N ρ r) (v ρ r fun d r1 => ∃ d1 d2 d3 n kvs, d = .tuple [d1, d2, d3] ∧ ρ[i]? = some (some (dCell n)) ∧ r1.cs[n]? = some (.dict kvs) ∧ isTok kvs = false ∧ (kvs.map (·.1)).Nodup ∧ kvs.length + 3 < sizeLine ∧
  N.nx ρ { r1 with cs := ((r1.cs.set n (.dict (putD kvs (.inr z1) d1))).set n (.dict (putD (putD kvs (.inr z1) d1) (.inr z2) d2))).set n (.dict (putD (putD (putD kvs (.inr z1) d1) (.inr z2) d2) (.inr z3) d3)) }) := ⟨id⟩
instance {v1 v2 v3 : VT} {l : Nat} : St (vPar3O i j l v1 v2 v3 N ρ r) (v1 ρ r fun d r1 => v2 ρ r1 fun e r2 => v3 ρ r2 fun f r3 => isMut d = true ∧ N.nx (((ρ.set i (some d)).set j (some e)).set l (some f)) r3) := ⟨id⟩
instance : St (vAsgL2 i j v N ρ r) (v ρ r fun d r1 => ∃ d1 d2, d = .list [d1, d2] ∧ N.nx ((ρ.set i (some d1)).set j (some d2)) r1) := ⟨id⟩
end
end Sn
namespace Sn
open PySem PySem.Spec PyProof.Rows L2
theorem DwK.mem {K : PySem.W.Frag} {A : Amb} {W : Addr → Prop} {H : Hp} {p : Key × V} : ∀ {xs : List (Key × V)} {ds : List (D × D)}, DwK K A W H xs ds → p ∈ xs → ∃ z, (keyD p.1, z) ∈ ds ∧ Dw K A W H p.2 z
  | _, _, .nil, h => by cases h
  | _, _, .cons h a, m => by
    rcases List.mem_cons.mp m with rfl | m
    · exact ⟨_, List.mem_cons_self .., h⟩
    · obtain ⟨z, h1, h2⟩ := DwK.mem a m
      exact ⟨z, List.mem_cons_of_mem _ h1, h2⟩
def vOwnEq (C : Addr) (vf : VF) (v1 v2 : VT) : VT := fun ρ r Q => v1 ρ r fun d r1 => v2 ρ r1 fun e r2 => (∃ fs, d = dIns C fs) ∧ (∃ gs, e = dIns C gs) ∧ vf [d, e] r2 fun z r3 => (∃ b, z = .bool b) ∧ Q z r3
def vIsC (C : Addr) (v1 : VT) : VT := fun ρ r Q => v1 ρ r fun d r1 => (∃ fs, d = dIns C fs) ∧ Q (.bool true) r1
section
variable {ρ : En} {r : Rs} {Q : D → Rs → Prop} {v1 v2 : VT} {C : Addr} {vf : VF}
instance : St (vOwnEq C vf v1 v2 ρ r Q) (v1 ρ r fun d r1 => v2 ρ r1 fun e r2 => (∃ fs, d = dIns C fs) ∧ (∃ gs, e = dIns C gs) ∧ vf [d, e] r2 fun z r3 => (∃ b, z = .bool b) ∧ Q z r3) := ⟨id⟩
instance : St (vIsC C v1 ρ r Q) (v1 ρ r fun d r1 => (∃ fs, d = dIns C fs) ∧ Q (.bool true) r1) := ⟨id⟩
instance {fs : List (Str × D)} {P : Prop} : St ((∃ gs, dIns C fs = dIns C gs) ∧ P) P := ⟨fun q => ⟨⟨fs, rfl⟩, q⟩⟩
instance {b : Bool} {P : Prop} : St ((∃ c, (.bool b : D) = .bool c) ∧ P) P := ⟨fun q => ⟨⟨b, rfl⟩, q⟩⟩
end
end Sn
namespace Sn
open PySem PySem.Spec PyProof.Rows L2
section
variable {K : PySem.W.Frag} {A : Amb} {W : Addr → Prop} {H : Hp} {r : Rs} {a : Addr} {n : Nat} {xs ys : List V}
theorem ext_cellL (R : Res K A W H r) (h : A.as[n]? = some a) (ha : H a = some (.lst xs)) : Ext K A W H W (upd H a (.lst ys)) where
  fr := fun b o u e => by rw [upd_ne (fun z => u (.inr (.inr (.inr (.inl (by rw [z]; exact List.mem_of_getElem? h)))))), e]
  al := fun b e => by
    by_cases z : b = a
    · subst z
      rw [upd_same] at e
      cases e
    · rwa [upd_ne z] at e
  tp := fun b zs e => by
    rcases e with (e | ⟨o, e⟩) | e
    · exact .inl (.inl (by rw [upd_ne (fun z => by rw [z, ha] at e; cases e)]; exact e))
    · exact .inl (.inr ⟨o, by rw [upd_ne (fun z => by rw [z, ha] at e; cases e)]; exact e⟩)
    · exact .inr e
  wk := fun _ w => w
  wn := fun _ w => .inl w
theorem res_cellL {ds : List D} (R : Res K A W H r) (h : A.as[n]? = some a) (ha : H a = some (.lst xs)) (hs : a ≠ A.s ∨ A.sk = false) (hy : DwA K A W H ys ds) : Res K A W (upd H a (.lst ys)) { r with cs := r.cs.set n (.list ds) } := by
  have x := ext_cellL (ys := ys) R h ha
  have hm := List.mem_of_getElem? h
  have nd : A.d ≠ a := fun z => R.na.1 (by rw [z]; exact hm)
  have ng : A.g ≠ a := fun z => R.na.2.1 (by rw [z]; exact hm)
  have nc : A.c ≠ a := fun z => R.na.2.2.1 (by rw [z]; exact hm)
  refine ⟨?_, R.sc.mov fun sk o e => ?_, R.sl, R.sg, by rw [List.length_set]; exact R.le, fun m b d e1 e2 => ?_, R.nd, R.na, R.av, fun b w e => R.wa b w (x.al b e)⟩
  · exact R.dr.upd ⟨nd.symm, ng.symm, nc.symm⟩
  · rw [upd_ne (fun z => ?_)]
    · exact e
    · rcases hs with hs | hs
      · exact hs z.symm
      · rw [sk] at hs; cases hs
  · by_cases q : n = m
    · subst q
      rw [h] at e1
      cases e1
      have hl : n < r.cs.length := by rw [← R.le]; exact (List.getElem?_eq_some_iff.mp h).1
      rw [List.getElem?_set_self hl] at e2
      cases e2
      exact .own <| .lst upd_same (DwA.mov (fun _ e => e) (fun b o w e => x.fr b o (R.av b w) e) x.tp hy)
    · rw [List.getElem?_set_ne q] at e2
      refine (R.ce m b d e1 e2).ext x R.av fun o e => ?_
      rw [upd_ne (fun z => ?_)]
      · exact e
      · rw [z] at e1
        exact q ((List.getElem?_inj (List.getElem?_eq_some_iff.mp h).1 R.nd).mp (h.trans e1.symm))
end
end Sn
namespace Sn
open PySem PySem.Spec PyProof.Rows L2
section
variable {X : Cx} {e : Expr} {t1 t2 : TE} {st : Stmt} {sts : List Stmt}
theorem pss_never : PSs X sts (fun _ _ _ => False) := ⟨fun _ _ _ _ _ _ h => h.elim⟩
end
def vLput (i : Nat) (vk vv : VT) : VTS := fun N ρ r => vv ρ r fun d r1 => ∃ ds, ρ[i]? = some (some (.list ds)) ∧ vk ρ r1 fun kk r2 => ∃ (k : Int) (j : Nat), kk = .int k ∧ ixN ds.length k = some j ∧ N.nx (ρ.set i (some (.list (ds.set j d)))) r2
section
variable {K : PySem.W.Frag} {A : Amb} {W : Addr → Prop} {H : Hp}
theorem DwA.set {v : V} {d : D} (h : Dw K A W H v d) : ∀ {xs : List V} {ds : List D}, DwA K A W H xs ds → ∀ j, DwA K A W H (xs.set j v) (ds.set j d)
  | _, _, .nil, _ => .nil
  | _, _, .cons _ a, 0 => .cons h a
  | _, _, .cons g a, j + 1 => .cons g (DwA.set h a j)
end
section
variable {N : VN} {ρ : En} {r : Rs} {i : Nat} {vk vv : VT}
instance : St (vLput i vk vv N ρ r) (vv ρ r fun d r1 => ∃ ds, ρ[i]? = some (some (.list ds)) ∧ vk ρ r1 fun kk r2 => ∃ (k : Int) (j : Nat), kk = .int k ∧ ixN ds.length k = some j ∧ N.nx (ρ.set i (some (.list (ds.set j d)))) r2) := ⟨id⟩
end
def enumD (ds : List D) : List D := (List.range ds.length).map fun i => .tuple [.int (i : Nat), ds.getD i .none]
theorem enumD_len (ds : List D) : (enumD ds).length = ds.length := by unfold enumD; rw [List.length_map, List.length_range]
theorem enumD_at {ds : List D} {i : Nat} {d : D} (h : (enumD ds)[i]? = some d) : ∃ e, ds[i]? = some e ∧ d = .tuple [.int (i : Nat), e] := by
  have hl : i < ds.length := by rw [← enumD_len]; exact (List.getElem?_eq_some_iff.mp h).1
  unfold enumD at h
  rw [List.getElem?_map, List.getElem?_range hl] at h
  cases h
  exact ⟨ds[i], List.getElem?_eq_getElem hl, by show PyData.tuple [.int (i : Nat), ds.getD i .none] = _; rw [List.getD_eq_getElem?_getD, List.getElem?_eq_getElem hl]; rfl⟩
def vEnumI (v : VT) : VTI := fun ρ r Q => v ρ r fun d r1 => ∃ ds, d = .tuple ds ∧ Q (enumD ds) r1
section
variable {X : Cx} {O : List Nat} {e : Expr} {v1 : VT} {p pos tpos : Pos} {elts : List Expr} {kk : Nat}
theorem vi_enum (hg : Gl X "enumerate") (hm : X.mg "enumerate" = none) (h : VE X O e v1) (hst : starEach [e] X.env = (false, eval e X.env) :: starEach [] X.env := by rfl) (hs : starEach [e] X.env = [(false, eval e X.env)] := by rfl) :
    VI X O (.Tuple elts kk tpos) (.Call (.Name "enumerate" p) [e] [] pos) (vEnumI v1) := PI.imp (pi_enumT hg hm (pa_cons h pa_nil hst) hs) fun σ H R q => by
  obtain ⟨A, W0, H0, W, ρ, r, Q0, E, q, k⟩ := q
  refine ⟨A, W0, H0, W, ρ, r, _, E, q, fun d r1 q1 v H1 W1 x1 E1 m1 => ?_⟩
  obtain ⟨ds, rfl, q1⟩ := q1
  obtain ⟨a, xs, rfl, hb, hx⟩ := (show mB X.K A H1 W1 H1 v _ from .inl m1).tup
  refine ⟨a, xs, rfl, hb, k (enumD ds) r1 q1 _ H1 W1 x1 E1 ⟨fun H => SqT X.K H a xs, YPair (fun i => some (.int (i : Nat))) (fun i => xs[i]?), ?_, ?_, ?_⟩⟩
  · rw [enumD_len, ← hx.len]
    exact walk_enumT
  · intro W' H' s
    exact s.tp _ _ hb
  · rintro i H2 W2 x H3 d hd s ⟨T, y1, y2, rfl, hT, rfl, e1, e2⟩
    cases e1
    obtain ⟨e, he, rfl⟩ := enumD_at hd
    obtain ⟨v, g1, g2⟩ := hx.get he
    have e2 : xs[i]? = some y2 := e2
    rw [g1] at e2
    cases e2
    refine ⟨same_new hT, .tup (.inl (.inl upd_same)) (.cons (.int _) (.cons ?_ .nil))⟩
    exact (g2.stp s).stp ⟨fun a o _ z => same_new hT _ _ z, fun a ys z => sqT_same (same_new hT) z, fun _ z => z⟩
end
section
variable {ρ : En} {r : Rs} {v : VT} {QA : List D → Rs → Prop}
instance : St (vEnumI v ρ r QA) (v ρ r fun d r1 => ∃ ds, d = .tuple ds ∧ QA (enumD ds) r1) := ⟨id⟩
end
end Sn
namespace Sn
open PySem PySem.Spec PyProof.Rows L2
/-- as FnR, with a promise that knows how large the heap was -/
def FnY (P : Program) (w : World) (K : PySem.W.Frag) (mg : Str → Option Value) (base : Heap) (CX : CXT) (k : Nat) (f : Addr) (sp : Nat → Sp) : Prop :=
  ∀ (A : Around) (outer : List PySem.Env) (s : Shared) (H : Hp) (us : List Value) (vs : List V) (Q : VK) (E : XK), Room k A → Env0 P w K mg base A outer s H → Vals vs us → sp s.heap.objs.size vs H Q E →
    codeAny (model P w) A (.call (.ref f) ⟨us, []⟩) (CR CX outer P w H s Q E) s
section
variable {P : Program} {w : World} {K : PySem.W.Frag} {mg : Str → Option Value} {base : Heap}
theorem FnY.mono {CX : CXT} {j k : Nat} {f : Addr} {sp : Nat → Sp} (F : FnY P w K mg base CX j f sp) (h : j ≤ k) : FnY P w K mg base CX k f sp := fun A outer s H us vs Q E hr => F A outer s H us vs Q E (hr.mono h)
end
end Sn
namespace Sn
open PySem PySem.Spec PyProof.Rows L2
def vForOwn (C : Addr) (fn : Str) (i : Nat) (t : Tgt) (body : VTS) : VTS := fun N ρ r => ∃ fs kvs, ρ[i]? = some (some (dIns C fs)) ∧ fs.lookup fn = some (.dict kvs) ∧ isTok kvs = false ∧ vLoop t body (kvs.map (·.1)) { N with rt := fun _ _ => False } ρ r
def vOwnIx (C : Addr) (vf : VF) (v1 v2 : VT) : VT := fun ρ r Q => v1 ρ r fun d r1 => ∃ fs, d = dIns C fs ∧ v2 ρ r1 fun k r2 => vf [d, k] r2 Q
def vLoopS (i j : Nat) (body : VTS) : List D → VTS
  | [], N, ρ, r => N.nx ρ r
  | d :: ds, N, ρ, r => ∃ x xs, d = .tuple (x :: xs) ∧ body { nx := vLoopS i j body ds N, ct := vLoopS i j body ds N, bk := N.nx, rt := N.rt } ((ρ.set i (some x)).set j (some (.list xs))) r
def vForS (vi : VTI) (i j : Nat) (body : VTS) : VTS := fun N ρ r => vi ρ r fun ds r1 => vLoopS i j body ds N ρ r1
def vCallAK (vf : VF) (as : List ArgV) (v : VT) : VT := fun ρ r Q => vArgs as ρ r fun ds r1 => v ρ r1 fun d r2 => vf (ds ++ [d]) r2 Q
section
variable {ρ : En} {r : Rs} {Q : D → Rs → Prop} {N : VN} {s : VTS} {v v1 v2 : VT} {as : List ArgV} {i j : Nat} {C : Addr} {fn : Str} {vf : VF} {vi : VTI} {tg : Tgt}
instance : St (vForOwn C fn i tg s N ρ r) (∃ fs kvs, ρ[i]? = some (some (dIns C fs)) ∧ fs.lookup fn = some (.dict kvs) ∧ isTok kvs = false ∧ vLoop tg s (kvs.map (·.1)) { N with rt := fun _ _ => False } ρ r) := ⟨id⟩
instance : St (vOwnIx C vf v1 v2 ρ r Q) (v1 ρ r fun d r1 => ∃ fs, d = dIns C fs ∧ v2 ρ r1 fun k r2 => vf [d, k] r2 Q) := ⟨id⟩
instance : St (vForS vi i j s N ρ r) (vi ρ r fun ds r1 => vLoopS i j s ds N ρ r1) := ⟨id⟩
instance : St (vLoopS i j s [] N ρ r) (N.nx ρ r) := ⟨id⟩
instance : St (vCallAK vf as v ρ r Q) (vArgs as ρ r fun ds r1 => v ρ r1 fun d r2 => vf (ds ++ [d]) r2 Q) := ⟨id⟩
end
end Sn
namespace Sn
open PySem PySem.Spec PyProof.Rows L2
def revZ (z : Str) : Str := ⟨((Builtin.Str.strSliceIndices none none (-1) z.length).filterMap (z.cps[·]?)).toArray⟩
def vRevS (v : VT) : VT := fun ρ r Q => v ρ r fun d r1 => ∃ z, d = .str z ∧ z.length ≤ sizeLine ∧ Q (.str (revZ z)) r1
section
variable {ρ : En} {r : Rs} {Q : D → Rs → Prop} {v : VT}
instance : St (vRevS v ρ r Q) (v ρ r fun d r1 => ∃ z, d = .str z ∧ z.length ≤ sizeLine ∧ Q (.str (revZ z)) r1) := ⟨id⟩
end
end Sn
namespace Sn
open PySem PySem.Spec PyProof.Rows L2
/-- what is wanted of an error: its class's place, its attributes -/
abbrev EK := Addr → List (Str × D) → Rs → Prop
abbrev VTSx := VN → EK → En → Rs → Prop
abbrev VTx := En → Rs → (D → Rs → Prop) → EK → Prop
def KeOk (K : PySem.W.Frag) (A : Amb) (W0 : Addr → Prop) (H0 : Hp) (E : XK) (E0 : EK) : Prop :=
  (∀ C fs r', E0 C fs r' → fs ≠ [] → ∀ (d : Addr) (xs : List (Str × V)) (H' : Hp) (W' : Addr → Prop), Ext K A W0 H0 W' H' → Res K A W' H' r' → H' d = none → DwF K A W' H' xs fs → E (.ref C) (some d) (upd H' d (.xd xs))) ∧
  ∀ C r', E0 C [] r' → ∀ (H' : Hp) (W' : Addr → Prop), Ext K A W0 H0 W' H' → Res K A W' H' r' → E (.ref C) none H'
def xOf (t : VTS) : VTSx := fun N _ ρ r => t N ρ r
def xSeq (t u : VTSx) : VTSx := fun N E0 ρ r => t { N with nx := fun ρ' r' => u N E0 ρ' r' } E0 ρ r
def xIf (c : VTT) (t u : VTSx) : VTSx := fun N E0 ρ r => c ρ r fun b r1 => if b = true then t N E0 ρ r1 else u N E0 ρ r1
def xLoop (t : Tgt) (body : VTSx) : List D → VTSx
  | [], N, _, ρ, r => N.nx ρ r
  | d :: ds, N, E0, ρ, r => vBind t d ρ fun ρ' => body { nx := xLoop t body ds N E0, ct := xLoop t body ds N E0, bk := N.nx, rt := N.rt } E0 ρ' r
def xFor (vi : VTI) (t : Tgt) (body : VTSx) : VTSx := fun N E0 ρ r => vi ρ r fun ds r1 => xLoop t body ds N E0 ρ r1
def xRet (v : VTx) : VTSx := fun N E0 ρ r => v ρ r (fun d r1 => N.rt d r1) E0
def xRaise0 (C : Addr) : VTSx := fun _ E0 _ r => E0 C [] r
def xRaise (C : Addr) (f : Str) (v : VT) : VTSx := fun _ E0 ρ r => v ρ r fun d r1 => E0 C [(f, d)] r1
theorem KeOk.reb {K : PySem.W.Frag} {A B : Amb} {W : Addr → Prop} {H : Hp} {E : XK} {E0 : EK} (l : A.Like B) (h : KeOk K A W H E E0) : KeOk K B W H E E0 := ⟨fun C fs r' q ne d xs H' W' x R n m =>
  h.1 C fs r' q ne d xs H' W' (x.reb l.sym) (R.reb l.sym) n (DwF.reb l.sym.d l.sym.s l.sym.as m), fun C r' q H' W' x R => h.2 C r' q H' W' (x.reb l.sym) (R.reb l.sym)⟩
section
variable {X : Cx} {E : XK} {O : List Nat} {k : Nat} {f : Addr} {fd : FuncData} {ps : List Str} {vf : List D → Rs → (D → Rs → Prop) → EK → Prop} {x : Str} {p pos : Pos} {e : Expr} {es : List Expr} {as : List ArgV} {bs : List Bool}
def xCall (vf : List D → Rs → (D → Rs → Prop) → EK → Prop) (as : List ArgV) : VTx := fun ρ r Q E0 => vArgs as ρ r fun ds r1 => vf ds r1 Q E0
def xCallS (vf : List D → Rs → (D → Rs → Prop) → EK → Prop) (as : List ArgV) : VTx := fun ρ r Q E0 => vArgs as ρ r fun ds r1 => ∃ d rest, ds = d :: rest ∧ rest.length ≤ 1000 ∧ vf [d, .tuple rest] r1 Q E0
end
end Sn
namespace Sn
open PySem PySem.Spec PyProof.Rows L2
def vCallZ (vf : VF) (va : VTA) : VT := fun ρ r Q => va ρ r fun ds r1 => ds.length ≤ 1000 ∧ vf [.tuple ds] r1 Q
theorem DwA.ints {K : PySem.W.Frag} {A : Amb} {W : Addr → Prop} {H : Hp} : ∀ {xs : List V} {ns : List Int}, DwA K A W H xs (ns.map .int) → xs = ns.map V.int
  | _, [], .nil => rfl
  | _, _ :: _, .cons h a => by
    cases h
    rw [List.map_cons, ← DwA.ints a]
section
variable {ρ : En} {r : Rs} {Q : D → Rs → Prop} {vf : VF} {va : VTA} {N : VN} {E0 : EK} {t u : VTSx} {v : VT} {s : VTS} {c : VTT} {vi : VTI} {tg : Tgt} {C : Addr} {f : Str} {d : D} {ds : List D} {as : List ArgV} {vx : List D → Rs → (D → Rs → Prop) → EK → Prop} {xv : VTx}
instance : St (vCallZ vf va ρ r Q) (va ρ r fun ds r1 => ds.length ≤ 1000 ∧ vf [.tuple ds] r1 Q) := ⟨id⟩
instance : St (xOf s N E0 ρ r) (s N ρ r) := ⟨id⟩
instance : St (xSeq t u N E0 ρ r) (t { N with nx := fun ρ' r' => u N E0 ρ' r' } E0 ρ r) := ⟨id⟩
instance : St (xIf c t u N E0 ρ r) (c ρ r fun b r1 => if b = true then t N E0 ρ r1 else u N E0 ρ r1) := ⟨id⟩
instance : St (xFor vi tg t N E0 ρ r) (vi ρ r fun ds r1 => xLoop tg t ds N E0 ρ r1) := ⟨id⟩
instance : St (xLoop tg t [] N E0 ρ r) (N.nx ρ r) := ⟨id⟩
instance : St (xRet xv N E0 ρ r) (xv ρ r (fun d r1 => N.rt d r1) E0) := ⟨id⟩
instance : St (xRaise0 C N E0 ρ r) (E0 C [] r) := ⟨id⟩
instance : St (xRaise C f v N E0 ρ r) (v ρ r fun d r1 => E0 C [(f, d)] r1) := ⟨id⟩
instance : St (xCall vx as ρ r Q E0) (vArgs as ρ r fun ds r1 => vx ds r1 Q E0) := ⟨id⟩
instance : St (xCallS vx as ρ r Q E0) (vArgs as ρ r fun ds r1 => ∃ d rest, ds = d :: rest ∧ rest.length ≤ 1000 ∧ vx [d, .tuple rest] r1 Q E0) := ⟨id⟩
end
end Sn
namespace Sn
open PySem PySem.Spec PyProof.Rows L2
/-- C(..), by an own __init__(self, *v) -/
def mkZ (C : Addr) (vf : VFX) (ds : List D) (r : Rs) (Q : D → Rs → Prop) : Prop := ds.length ≤ 10000 ∧ vf [dIns C [], .tuple ds] r fun d es r2 => d = .none ∧ ∃ s, es = [s] ∧ isMut s = true ∧ Q s r2
def vMakeZ (C : Addr) (vf : VFX) (va : VTA) : VT := fun ρ r Q => va ρ r fun ds r1 => mkZ C vf ds r1 Q
def vMakeS (C : Addr) (vf : VFX) (v : VT) : VT := fun ρ r Q => v ρ r fun d r1 => ∃ ds, (d = .list ds ∨ d = .tuple ds) ∧ mkZ C vf ds r1 Q
def vOwnIn (C : Addr) (vf : VF) (v1 v2 : VT) : VT := fun ρ r Q => v1 ρ r fun d r1 => v2 ρ r1 fun e r2 => (∃ fs, e = dIns C fs) ∧ vf [e, d] r2 fun z r3 => ∃ b, z = .bool b ∧ Q (.bool b) r3
def vOwnNin (C : Addr) (vf : VF) (v1 v2 : VT) : VT := fun ρ r Q => v1 ρ r fun d r1 => v2 ρ r1 fun e r2 => (∃ fs, e = dIns C fs) ∧ vf [e, d] r2 fun z r3 => ∃ b, z = .bool b ∧ Q (.bool !b) r3
def vOwnBin (C : Addr) (vf : VF) (v1 v2 : VT) : VT := fun ρ r Q => v1 ρ r fun d r1 => v2 ρ r1 fun e r2 => (∃ fs, d = dIns C fs) ∧ (∃ gs, e = dIns C gs) ∧ vf [d, e] r2 Q
section
variable {ρ : En} {r : Rs} {Q : D → Rs → Prop} {v1 v2 : VT} {va : VTA} {C : Addr} {vf : VF} {vx : VFX}
instance : St (vMakeZ C vx va ρ r Q) (va ρ r fun ds r1 => mkZ C vx ds r1 Q) := ⟨id⟩
instance : St (vMakeS C vx v1 ρ r Q) (v1 ρ r fun d r1 => ∃ ds, (d = .list ds ∨ d = .tuple ds) ∧ mkZ C vx ds r1 Q) := ⟨id⟩
instance : St (vOwnIn C vf v1 v2 ρ r Q) (v1 ρ r fun d r1 => v2 ρ r1 fun e r2 => (∃ fs, e = dIns C fs) ∧ vf [e, d] r2 fun z r3 => ∃ b, z = .bool b ∧ Q (.bool b) r3) := ⟨id⟩
instance : St (vOwnNin C vf v1 v2 ρ r Q) (v1 ρ r fun d r1 => v2 ρ r1 fun e r2 => (∃ fs, e = dIns C fs) ∧ vf [e, d] r2 fun z r3 => ∃ b, z = .bool b ∧ Q (.bool !b) r3) := ⟨id⟩
instance : St (vOwnBin C vf v1 v2 ρ r Q) (v1 ρ r fun d r1 => v2 ρ r1 fun e r2 => (∃ fs, d = dIns C fs) ∧ (∃ gs, e = dIns C gs) ∧ vf [d, e] r2 Q) := ⟨id⟩
instance {ds : List D} {r1 : Rs} : St (∃ es, ((.list ds : D) = .list es ∨ (.list ds : D) = .tuple es) ∧ mkZ C vx es r1 Q) (mkZ C vx ds r1 Q) := ⟨fun q => ⟨ds, .inl rfl, q⟩⟩
instance {ds : List D} {r1 : Rs} : St (∃ es, ((.tuple ds : D) = .list es ∨ (.tuple ds : D) = .tuple es) ∧ mkZ C vx es r1 Q) (mkZ C vx ds r1 Q) := ⟨fun q => ⟨ds, .inr rfl, q⟩⟩
end
end Sn
namespace Sn
open PySem PySem.Spec PyProof.Rows L2
def itemsD (kvs : List (D × D)) : List D := kvs.map fun p => .tuple [p.1, p.2]
def vItemsI (v : VT) : VTI := fun ρ r Q => v ρ r fun d r1 => ∃ kvs, d = .dict kvs ∧ isTok kvs = false ∧ Q (itemsD kvs) r1
section
variable {X : Cx} {O : List Nat} {e : Expr} {te : TE} {v1 : VT} {apos cpos tpos : Pos} {elts : List Expr} {kk : Nat}
theorem DwK.at_ {K : PySem.W.Frag} {A : Amb} {W : Addr → Prop} {H : Hp} : ∀ {xs : List (Key × V)} {ds : List (D × D)}, DwK K A W H xs ds → ∀ {i : Nat} {p : D × D}, ds[i]? = some p → ∃ q : Key × V, xs[i]? = some q ∧ p.1 = keyD q.1 ∧ Dw K A W H q.2 p.2
  | _, _, .nil, i, p, h => by simp at h
  | _, _, .cons (k := k) (v := v) g a, 0, p, h => by
    simp only [List.getElem?_cons_zero, Option.some.injEq] at h
    subst h
    exact ⟨_, rfl, rfl, g⟩
  | _, _, .cons g a, i + 1, p, h => by
    simp only [List.getElem?_cons_succ] at h ⊢
    exact DwK.at_ a h
end
section
variable {ρ : En} {r : Rs} {v : VT} {QA : List D → Rs → Prop}
instance : St (vItemsI v ρ r QA) (v ρ r fun d r1 => ∃ kvs, d = .dict kvs ∧ isTok kvs = false ∧ QA (itemsD kvs) r1) := ⟨id⟩
end
end Sn
namespace Sn
open PySem PySem.Spec PyProof.Rows L2
def vMakeD (C : Addr) (vf : VFX) (dd : List D) : VT := fun _ r Q => vf (dIns C [] :: dd) r fun d es r2 => d = .none ∧ ∃ s, es = [s] ∧ isMut s = true ∧ Q s r2
section
variable {ρ : En} {r : Rs} {Q : D → Rs → Prop} {C : Addr} {vx : VFX} {dd : List D}
instance : St (vMakeD C vx dd ρ r Q) (vx (dIns C [] :: dd) r fun d es r2 => d = .none ∧ ∃ s, es = [s] ∧ isMut s = true ∧ Q s r2) := ⟨id⟩
end
end Sn
namespace Sn
open PySem PySem.Spec PyProof.Rows L2
def vOwnNe (C : Addr) (vf : VF) (v1 v2 : VT) : VT := fun ρ r Q => v1 ρ r fun d r1 => v2 ρ r1 fun e r2 => (∃ fs, d = dIns C fs) ∧ (∃ gs, e = dIns C gs) ∧ vf [d, e] r2 fun z r3 => ∃ b, z = .bool b ∧ Q (.bool !b) r3
section
variable {ρ : En} {r : Rs} {Q : D → Rs → Prop} {v1 v2 : VT} {C : Addr} {vf : VF}
instance : St (vOwnNe C vf v1 v2 ρ r Q) (v1 ρ r fun d r1 => v2 ρ r1 fun e r2 => (∃ fs, d = dIns C fs) ∧ (∃ gs, e = dIns C gs) ∧ vf [d, e] r2 fun z r3 => ∃ b, z = .bool b ∧ Q (.bool !b) r3) := ⟨id⟩
end
end Sn
namespace Sn
open PySem PySem.Spec PyProof.Rows L2
section
variable {X : Cx} {O : List Nat} {elt tg iter tg1 iter1 : Expr} {ifs ifs1 : List Expr} {scope : Scope} {own : List (Str × Nat)} {pos : Pos} {vi1 : VTI} {t t1 : Tgt} {c c1 : VTT} {v : VT} {te : TE} {vp : En → (D → Prop) → Prop}
/-- [e for t in d if c for t1 in i1 if c1], d a dict -/
def vLc2D (vs : List Nat) (vp : En → (D → Prop) → Prop) (t : Tgt) (c : VTT) (vi1 : VTI) (vs1 : List Nat) (t1 : Tgt) (c1 : VTT) (v : VT) : VT := fun ρ r Q => vp ρ fun d => ∃ kvs, d = .dict kvs ∧ isTok kvs = false ∧ kvs.length ≤ 1000 ∧ vLc2Go t c vi1 vs1 t1 c1 v (wipeE ρ vs) (kvs.map (·.1)) r fun zs r2 => Q (.list zs) r2
end
section
variable {ρ : En} {r : Rs} {Q : D → Rs → Prop} {vs vs1 : List Nat} {vp : En → (D → Prop) → Prop} {t t1 : Tgt} {c c1 : VTT} {vi1 : VTI} {v : VT}
instance : St (vLc2D vs vp t c vi1 vs1 t1 c1 v ρ r Q) (vp ρ fun d => ∃ kvs, d = .dict kvs ∧ isTok kvs = false ∧ kvs.length ≤ 1000 ∧ vLc2Go t c vi1 vs1 t1 c1 v (wipeE ρ vs) (kvs.map (·.1)) r fun zs r2 => Q (.list zs) r2) := ⟨id⟩
end
end Sn
namespace Sn
open PySem PySem.Spec PyProof.Rows L2
mutual
/-- the cells that data name are below n -/
def cfr (n : Nat) : D → Bool
  | .dict kvs => cfrK n kvs
  | .list ds => cfrA n ds
  | .tuple ds => cfrA n ds
  | _ => true
def cfrA (n : Nat) : List D → Bool
  | [] => true
  | d :: ds => cfr n d && cfrA n ds
def cfrK (n : Nat) : List (D × D) → Bool
  | [] => true
  | p :: ds => (match p.1, p.2 with
    | .none, .int i => decide (i < (n : Int))
    | _, _ => true) && cfr n p.2 && cfrK n ds
end
theorem cfr_cell {n m : Nat} : cfr n (dCell m) = decide (m < n) := by simp [dCell, cfr, cfrK]
theorem cfrA_all (n : Nat) : ∀ {ds : List D}, (∀ d ∈ ds, cfr n d = true) → cfrA n ds = true
  | [], _ => by simp [cfrA]
  | d :: ds, h => by
    simp only [cfrA, Bool.and_eq_true]
    exact ⟨h d List.mem_cons_self, cfrA_all n fun e he => h e (List.mem_cons_of_mem _ he)⟩
theorem cfrA_mem {n : Nat} : ∀ {ds : List D}, cfrA n ds = true → ∀ d ∈ ds, cfr n d = true
  | e :: ds, h, d, hd => by
    simp only [cfrA, Bool.and_eq_true] at h
    rcases List.mem_cons.mp hd with rfl | hd
    · exact h.1
    · exact cfrA_mem h.2 d hd
section
variable {K : PySem.W.Frag} {A B : Amb} {W W' : Addr → Prop} {H H' : Hp} {r r' : Rs} {a : Addr} {n : Nat}
mutual
/-- .. with the first cells alone -/
theorem Dw.cut (h1 : B.d = A.d) (h2 : B.s = A.s) (h3 : ∀ (m : Nat) (b : Addr), m < n → A.as[m]? = some b → B.as[m]? = some b) : ∀ {v : V} {d : D}, Dw K A W H v d → cfr n d = true → Dw K B W H v d
  | _, _, .non, _ => .non
  | _, _, .bl b, _ => .bl b
  | _, _, .int i, _ => .int i
  | _, _, .str z, _ => .str z
  | _, _, .tup h a, e => .tup h (DwA.cut h1 h2 h3 a (by simpa [cfr] using e))
  | _, _, .lst w h a, e => .lst w h (DwA.cut h1 h2 h3 a (by simpa [cfr] using e))
  | _, _, .dk w h a, e => .dk w h (DwK.cut h1 h2 h3 a (by simpa [cfr] using e))
  | _, _, .st, _ => by rw [← h1]; exact .st
  | _, _, .scr, _ => by rw [← h2]; exact .scr
  | _, _, .cell h, e => .cell (h3 _ _ (by rw [cfr_cell] at e; simpa using e) h)
  | _, _, .obj a, _ => .obj a
  | _, _, .ins w w2 h h2' a, e => .ins w w2 h h2' (DwF.cut h1 h2 h3 a (by
      simp only [dIns, cfr, cfrK, Bool.and_eq_true] at e
      exact e.2))
theorem DwA.cut (h1 : B.d = A.d) (h2 : B.s = A.s) (h3 : ∀ (m : Nat) (b : Addr), m < n → A.as[m]? = some b → B.as[m]? = some b) : ∀ {v : List V} {d : List D}, DwA K A W H v d → cfrA n d = true → DwA K B W H v d
  | _, _, .nil, _ => .nil
  | _, _, .cons h a, e => .cons (Dw.cut h1 h2 h3 h (by simp only [cfrA, Bool.and_eq_true] at e; exact e.1)) (DwA.cut h1 h2 h3 a (by simp only [cfrA, Bool.and_eq_true] at e; exact e.2))
theorem DwK.cut (h1 : B.d = A.d) (h2 : B.s = A.s) (h3 : ∀ (m : Nat) (b : Addr), m < n → A.as[m]? = some b → B.as[m]? = some b) : ∀ {v : List (Key × V)} {d : List (D × D)}, DwK K A W H v d → cfrK n d = true → DwK K B W H v d
  | _, _, .nil, _ => .nil
  | _, _, .cons h a, e => .cons (Dw.cut h1 h2 h3 h (by simp only [cfrK, Bool.and_eq_true] at e; exact e.1.2)) (DwK.cut h1 h2 h3 a (by simp only [cfrK, Bool.and_eq_true] at e; exact e.2))
theorem DwF.cut (h1 : B.d = A.d) (h2 : B.s = A.s) (h3 : ∀ (m : Nat) (b : Addr), m < n → A.as[m]? = some b → B.as[m]? = some b) : ∀ {v : List (Str × V)} {d : List (Str × D)}, DwF K A W H v d → cfrK n (d.map fun p => (PyData.str p.1, p.2)) = true → DwF K B W H v d
  | _, _, .nil, _ => .nil
  | _, _, .cons h a, e => .cons (Dw.cut h1 h2 h3 h (by simp only [List.map_cons, cfrK, Bool.and_eq_true] at e; exact e.1.2)) (DwF.cut h1 h2 h3 a (by simp only [List.map_cons, cfrK, Bool.and_eq_true] at e; exact e.2))
end
theorem Own.cut {d : D} (h1 : B.d = A.d) (h2 : B.s = A.s) (h3 : ∀ (m : Nat) (b : Addr), m < n → A.as[m]? = some b → B.as[m]? = some b) (h : Own K A W H a d) (e : cfr n d = true) : Own K B W H a d := by
  cases h with
  | lst h q => exact .lst h (q.cut h1 h2 h3 (by simpa [cfr] using e))
  | dk h q => exact .dk h (q.cut h1 h2 h3 (by simpa [cfr] using e))
  | ins w h h2' q => exact .ins w h h2' (q.cut h1 h2 h3 (by
      simp only [dIns, cfr, cfrK, Bool.and_eq_true] at e
      exact e.2))
theorem Cel.cut {d : D} (h1 : B.d = A.d) (h2 : B.s = A.s) (h3 : ∀ (m : Nat) (b : Addr), m < n → A.as[m]? = some b → B.as[m]? = some b) (h : Cel K A W H a d) (e : cfr n d = true) : Cel K B W H a d := by
  cases h with
  | own h => exact .own (h.cut h1 h2 h3 e)
  | tb h => exact .tb h
theorem OwnL.cut {d : D} (h1 : B.d = A.d) (h2 : B.s = A.s) (h3 : ∀ (m : Nat) (b : Addr), m < n → A.as[m]? = some b → B.as[m]? = some b) (h : OwnL K A W H a d) (e : cfr n d = true) : OwnL K B W H a d := by
  cases h with
  | own h => exact .own (h.cut h1 h2 h3 e)
  | lk h q => exact .lk h (q.cut h1 h2 h3 (by simpa [cfr] using e))
/-- the first n cells -/
def Amb.lo (A : Amb) (n : Nat) : Amb := { A with as := A.as.take n }
theorem Amb.loAt {A : Amb} {n : Nat} (m : Nat) (b : Addr) (hm : m < n) (h : A.as[m]? = some b) : (A.lo n).as[m]? = some b := by
  show (A.as.take n)[m]? = some b
  rw [List.getElem?_take, if_pos hm, h]
theorem Amb.loUp {A : Amb} {n : Nat} (m : Nat) (b : Addr) (h : (A.lo n).as[m]? = some b) : A.as[m]? = some b := by
  have h : (A.as.take n)[m]? = some b := h
  rw [List.getElem?_take] at h
  split at h
  · exact h
  · cases h
theorem Amb.loU {A : Amb} {n : Nat} {b : Addr} (h : (A.lo n).U b) : A.U b := by
  rcases h with h | h | h | h | h
  · exact .inl h
  · exact .inr (.inl h)
  · exact .inr (.inr (.inl h))
  · exact .inr (.inr (.inr (.inl (List.mem_of_mem_take h))))
  · exact .inr (.inr (.inr (.inr h)))
theorem Res.lo {pre post : List D} (R : Res K A W H r) (e : r.cs = pre ++ post) (hc : cfrA pre.length pre = true) : Res K (A.lo pre.length) W H { r with cs := pre } where
  dr := R.dr
  sc := R.sc
  sl := R.sl
  sg := R.sg
  le := by
    show (A.as.take pre.length).length = pre.length
    rw [List.length_take, R.le, e, List.length_append]
    omega
  ce := fun m b d h1 h2 => by
    have h2 : pre[m]? = some d := h2
    have hm : m < pre.length := (List.getElem?_eq_some_iff.mp h2).1
    exact Cel.cut (A := A) (B := A.lo pre.length) (n := pre.length) rfl rfl (fun m b => Amb.loAt m b) (R.ce m b d (Amb.loUp m b h1) (by rw [e, List.getElem?_append_left hm]; exact h2)) (cfrA_mem hc d (List.mem_of_getElem? h2))
  nd := (List.take_sublist ..).nodup R.nd
  na := ⟨fun z => R.na.1 (List.mem_of_mem_take z), fun z => R.na.2.1 (List.mem_of_mem_take z), fun z => R.na.2.2.1 (List.mem_of_mem_take z), fun sk z => R.na.2.2.2 sk (List.mem_of_mem_take z)⟩
  av := fun b w u => R.av b w (Amb.loU u)
  wa := R.wa
end
/-- modes that hold with more cells, too -/
class CutM (M : Mode) : Prop where
  down : ∀ {K : PySem.W.Frag} {A B : Amb} {W : Addr → Prop} {Hs H : Hp} {v : V} {d : D} {n : Nat}, B.d = A.d → B.s = A.s → (∀ (m : Nat) (b : Addr), m < n → A.as[m]? = some b → B.as[m]? = some b) → (∀ b, ¬ A.U b → ¬ B.U b) → cfr n d = true → M K A Hs W H v d → M K B Hs W H v d
  up : ∀ {K : PySem.W.Frag} {A B : Amb} {W : Addr → Prop} {Hs H : Hp} {v : V} {d : D}, B.d = A.d → B.s = A.s → (∀ (n : Nat) (b : Addr), A.as[n]? = some b → B.as[n]? = some b) → (∀ b, Hs b = none → ¬ B.U b) → M K A Hs W H v d → M K B Hs W H v d
instance : CutM mF := ⟨fun h1 h2 h3 _ e h => Dw.cut h1 h2 h3 h e, fun h1 h2 h3 _ h => h.grow h1 h2 h3⟩
instance : CutM mL := ⟨fun h1 h2 h3 h4 c h => h.elim (fun ⟨m, a, e, q, w, u, n⟩ => .inl ⟨m, a, e, q.cut h1 h2 h3 c, w, h4 a u, n⟩) fun ⟨m, h⟩ => .inr ⟨m, Dw.cut h1 h2 h3 h c⟩,
  fun h1 h2 h3 h4 h => h.elim (fun ⟨m, a, e, q, w, u, n⟩ => .inl ⟨m, a, e, q.grow h1 h2 h3, w, h4 a n, n⟩) fun ⟨m, h⟩ => .inr ⟨m, h.grow h1 h2 h3⟩⟩
def vCallF (vf : VF) (va : VTA) : VT := fun ρ r Q => va ρ r fun ds r1 => ∃ pre post, r1.cs = pre ++ post ∧ cfrA pre.length pre = true ∧ cfrA pre.length ds = true ∧ vf ds { r1 with cs := pre } fun d r2 => Q d { r2 with cs := r2.cs ++ post }
def vCallC (m : Nat) (vf : VF) (v0 : VT) (va : VTA) : VT := fun ρ r Q => v0 ρ r fun d r1 => va ρ r1 fun ds r2 => ∃ n d0, ds.length = m ∧ d = dCell n ∧ r2.cs[n]? = some d0 ∧ cfr 0 d0 = true ∧ cfrA 0 ds = true ∧ vf (d0 :: ds) { r2 with cs := [] } fun z r3 => Q z { r3 with cs := r2.cs }
def vItemC (C : Addr) (vf : VFX) (i : Nat) (vk vv : VT) : VTS := fun N ρ r => vv ρ r fun d r1 => ∃ n, ρ[i]? = some (some (dCell n)) ∧ vk ρ r1 fun kk r2 => ∃ fs, r2.cs[n]? = some (dIns C fs) ∧ cfrA 0 [dIns C fs, kk, d] = true ∧ vf [dIns C fs, kk, d] { r2 with cs := [] } fun _ es r3 => ∃ s, es = [s] ∧ N.nx ρ { r3 with cs := r2.cs.set n s }
end Sn
namespace Sn
open PySem PySem.Spec PyProof.Rows L2
section
variable {K : PySem.W.Frag} {A : Amb} {W0 W : Addr → Prop} {H0 H : Hp} {O : List Nat} {σ : L2.St} {ρ : En} {r : Rs} {a : Addr} {n : Nat}
/-- a slot's data are forgotten -/
theorem Env.forget (E : Env K A W0 H0 O W σ H ρ r) (i : Nat) (nr : Rep O i) : Env K A W0 H0 O W σ H (ρ.set i none) r := by
  have h := E.drop i (σ[i]?.getD none) nr
  have e : σ.set i (σ[i]?.getD none) = σ := by
    apply List.ext_getElem?
    intro j
    by_cases q : i = j
    · subst q
      by_cases hl : i < σ.length
      · rw [List.getElem?_set_self hl, List.getElem?_eq_getElem hl]
        rfl
      · rw [List.getElem?_eq_none (by simpa using hl), List.getElem?_eq_none (by simpa using hl)]
    · rw [List.getElem?_set_ne q]
  rwa [e] at h
def wipeS : List Nat → En → En
  | [], ρ => ρ
  | i :: is, ρ => wipeS is (ρ.set i none)
theorem Amb.celLo (h : A.as.length = n) : (A.cel a).lo n = A := by
  unfold Amb.lo Amb.cel
  cases A
  simp only at h ⊢
  subst h
  simp
/-- the last cell is one no more -/
theorem Env.uncel (E : Env K (A.cel a) W0 H0 O W σ H ρ r) (ha : H0 a = none) (hn : A.as.length = n) (hv : ∀ (i : Nat) (d : D), ρ[i]? = some (some d) → cfr n d = true) (hc : cfrA n (r.cs.take n) = true) : Env K A W0 H0 O W σ H ρ { r with cs := r.cs.take n } := by
  have h3 : ∀ (m : Nat) (b : Addr), m < n → (A.cel a).as[m]? = some b → A.as[m]? = some b := fun m b hm h => by
    have h : (A.as ++ [a])[m]? = some b := h
    rwa [List.getElem?_append_left (by omega)] at h
  have ll : r.cs.length = n + 1 := by
    have := E.res.le
    have h : (A.as ++ [a]).length = r.cs.length := this
    rw [List.length_append] at h
    simp at h
    omega
  have lt : (r.cs.take n).length = n := by rw [List.length_take]; omega
  have R := E.res.lo (pre := r.cs.take n) (post := r.cs.drop n) (by rw [List.take_append_drop]) (by rw [lt]; exact hc)
  rw [lt, Amb.celLo hn] at R
  exact {
    len := E.len
    var := fun i d e q => by
      obtain ⟨v, h1, h2⟩ := E.var i d e q
      exact ⟨v, h1, Dw.cut (A := A.cel a) (B := A) rfl rfl h3 h2 (hv i d e)⟩
    own := fun i d e q => by
      obtain ⟨b, h1, h2, h4, h5, h6⟩ := E.own i d e q
      exact ⟨b, h1, Own.cut (A := A.cel a) (B := A) rfl rfl h3 h2 (hv i d e), h4, fun u => h5 (Amb.celU.mpr (.inl u)), h6⟩
    rdo := fun i d e q => by
      obtain ⟨v, h1, h2, hk⟩ := E.rdo i d e q
      refine ⟨v, h1, ?_, hk⟩
      rcases h2 with h2 | ⟨b, e1, h2, h4, h5⟩
      · exact .inl (Dw.cut (A := A.cel a) (B := A) rfl rfl h3 h2 (hv i d e))
      · exact .inr ⟨b, e1, OwnL.cut (A := A.cel a) (B := A) rfl rfl h3 h2 (hv i d e), fun u => h4 (Amb.celU.mpr (.inl u)), h5⟩
    rin := E.rin
    bor := E.bor
    dis := E.dis
    res := R
    bs := ⟨fun b o u e => E.bs.fr b o (fun z => (Amb.celU.mp z).elim u fun y => by rw [y, ha] at e; cases e) e, E.bs.al, E.bs.tp, E.bs.wk, E.bs.wn⟩ }
end
/-- slots that hold what is known without the cells from n on -/
def allCf (n : Nat) : En → Bool
  | [] => true
  | none :: ρ => allCf n ρ
  | some d :: ρ => cfr n d && allCf n ρ
theorem allCf_at {n : Nat} : ∀ {ρ : En}, allCf n ρ = true → ∀ (i : Nat) (d : D), ρ[i]? = some (some d) → cfr n d = true
  | [], _, i, d, e => by simp at e
  | none :: ρ, h, 0, d, e => by simp at e
  | some x :: ρ, h, 0, d, e => by
    simp only [List.getElem?_cons_zero, Option.some.injEq] at e
    subst e
    simp only [allCf, Bool.and_eq_true] at h
    exact h.1
  | none :: ρ, h, i + 1, d, e => allCf_at (ρ := ρ) h i d (by simpa using e)
  | some x :: ρ, h, i + 1, d, e => by
    simp only [allCf, Bool.and_eq_true] at h
    exact allCf_at (ρ := ρ) h.2 i d (by simpa using e)
def endCel (js : List Nat) (n : Nat) (N : VN) : VN where
  nx := fun ρ' r' => allCf n (wipeS js ρ') = true ∧ cfrA n (r'.cs.take n) = true ∧ N.nx (wipeS js ρ') { r' with cs := r'.cs.take n }
  rt := fun d' r' => cfr n d' = true ∧ cfrA n (r'.cs.take n) = true ∧ N.rt d' { r' with cs := r'.cs.take n }
  bk := fun _ _ => False
  ct := fun _ _ => False
def vCelN (i : Nat) (js : List Nat) (s : VTS) : VTS := fun N ρ r => ∃ d, ρ[i]? = some (some d) ∧ s (endCel js r.cs.length N) (ρ.set i (some (dCell r.cs.length))) { r with cs := r.cs ++ [d] }
section
variable {X : Cx} {M : Mode} {B O O' : List Nat} {a b e : Expr} {i j : Nat} {x y : Str} {px py pt pos : Pos} {va vb : VT} {sts : List Stmt}
theorem vss_never : VSs X M B O O' sts (fun _ _ _ => False) := PSs.imp pss_never fun D σ H q => by
  obtain ⟨A, W0, H0, W, ρ, r, N, E, q, kn, kr, kb, kc⟩ := q
  exact q
end
section
variable {ρ : En} {r : Rs} {Q : D → Rs → Prop} {N : VN} {v1 v2 : VT} {i n : Nat} {d : D} {vf : VF} {vs : VTA} {vfx : VFX} {C : Addr} {js : List Nat} {s : VTS}
instance : St (vCallF vf vs ρ r Q) (vs ρ r fun ds r1 => ∃ pre post, r1.cs = pre ++ post ∧ cfrA pre.length pre = true ∧ cfrA pre.length ds = true ∧ vf ds { r1 with cs := pre } fun d r2 => Q d { r2 with cs := r2.cs ++ post }) := ⟨id⟩
instance : St (vCallC n vf v1 vs ρ r Q) (v1 ρ r fun d r1 => vs ρ r1 fun ds r2 => ∃ c d0, ds.length = n ∧ d = dCell c ∧ r2.cs[c]? = some d0 ∧ cfr 0 d0 = true ∧ cfrA 0 ds = true ∧ vf (d0 :: ds) { r2 with cs := [] } fun z r3 => Q z { r3 with cs := r2.cs }) := ⟨id⟩
instance : St (vItemC C vfx i v1 v2 N ρ r) (v2 ρ r fun d r1 => ∃ n, ρ[i]? = some (some (dCell n)) ∧ v1 ρ r1 fun kk r2 => ∃ fs, r2.cs[n]? = some (dIns C fs) ∧ cfrA 0 [dIns C fs, kk, d] = true ∧ vfx [dIns C fs, kk, d] { r2 with cs := [] } fun _ es r3 => ∃ s, es = [s] ∧ N.nx ρ { r3 with cs := r2.cs.set n s }) := ⟨id⟩
instance : St (vCelN i js s N ρ r) (∃ d, ρ[i]? = some (some d) ∧ s (endCel js r.cs.length N) (ρ.set i (some (dCell r.cs.length))) { r with cs := r.cs ++ [d] }) := ⟨id⟩
end
end Sn
namespace Sn
open PySem PySem.Spec PyProof.Rows L2
def vUpdate (i : Nat) (v : VT) : VTS := fun N ρ r => ∃ kvs, ρ[i]? = some (some (.dict kvs)) ∧ isTok kvs = false ∧ (kvs.map (·.1)).Nodup ∧ v ρ r fun d r1 => ∃ more, d = .dict (more.map fun p => (keyD p.1, p.2)) ∧ kvs.length + more.length ≤ 1000000 ∧ N.nx (ρ.set i (some (.dict (mergeD kvs more)))) r1
section
variable {X : Cx} {M : Mode} {B O O' : List Nat} {a b c e o : Expr} {es : List Expr} {i j : Nat} {x y : Str} {px py pt pos pos' apos : Pos} {v1 v2 v3 : VT} {vm vm2 : VTM} {c1 : VTT} {cm cm2 : VTMT} {va : VTA} {s1 s2 : VTS} {sts els : List Stmt}
def vPop (i : Nat) : VTM := fun ρ r Q => ∃ ds d, ρ[i]? = some (some (.list (ds ++ [d]))) ∧ Q d (ρ.set i (some (.list ds))) r
theorem em_pop (h : PE X e (tBM0 X.K "list" rPop (tVar i))) (n : Fre O i := by decide) : VEm X O e (vPop i) := PE.imp h fun σ H Q q => by
  obtain ⟨A, W0, H0, W, ρ, r, Q0, E, ⟨ds, d, hd, q⟩, k⟩ := q
  obtain ⟨a, h1, h2, h3, h4, h5⟩ := E.own i _ hd n
  cases h2 with
  | lst g g' =>
    rename_i xs
    have hl : xs.length = ds.length + 1 := by rw [g'.len]; simp
    obtain ⟨v, hv, hw⟩ := g'.get (i := ds.length) (d := d) (by simp)
    refine ⟨_, h1, .inl ⟨rfl, _, SqL.of g⟩, a, xs, v, rfl, rfl, g, by rw [hl]; exact hv, ?_⟩
    have st := E.mutS (o' := .lst xs.dropLast) n hd h1
    have g2 : DwA X.K A W H xs.dropLast ds := by
      have := g'.take ds.length
      rw [List.take_left'] at this
      · rw [List.dropLast_eq_take, hl, Nat.add_sub_cancel]
        exact this
      · rfl
    refine k d _ r q v _ W st (fun b e => ?_) (E.mut n hd h1 fun _ => .lst upd_same (g2.stp st)) (hw.stp st)
    by_cases z : b = a
    · rw [z, upd_same] at e; cases e
    · rwa [upd_ne z] at e
/-- a, b = e, e changes names' things -/
def vAsgM (t : Tgt) (v : VTM) : VTS := fun N ρ r => v ρ r fun d ρ1 r1 => vBind t d ρ1 fun ρ' => N.nx ρ' r1
theorem vsm_asgT {tg : Expr} {t : Tgt} (he : VEm X O e vm) (hg : PG X tg (gOf X.K t)) (hO : t.ok O := by decide) (hs : swapsWithSole [tg] e pos.line X.env = pure false := by rfl) (hw : swappedStores [tg] e X.env = pure none := by rfl) (h1 : (assignEach [tg] X.env).map (·.2) = [assign tg X.env] := by rfl) : VS X M B O O (.Assign [tg] e pos) (vAsgM t vm) := PS.imp (ps_asg he hg hs hw h1) fun D σ H q => by
  obtain ⟨A, W0, H0, W, ρ, r, N, E, q, kn, kr, kb, kc⟩ := q
  refine ⟨A, W0, H0, W, ρ, r, _, E, q, fun d ρ1 r1 q1 v H1 W1 s1 al1 E1 m1 => ?_⟩
  exact bind_go E1 hO m1 q1 fun ρ' σ' q' E' => kn ρ' r1 q' σ' H1 W1 E' s1
def vOrTM (c : VTT) (d : VTMT) : VTMT := fun ρ r Q => c ρ r fun b r1 => if b = true then Q true ρ r1 else d ρ r1 Q
def vAndTM (c : VTT) (d : VTMT) : VTMT := fun ρ r Q => c ρ r fun b r1 => if b = true then d ρ r1 Q else Q false ρ r1
/-- a if c else b, c changes names' things -/
def vIfEM (c : VTMT) (va vb : VT) : VTM := fun ρ r Q => c ρ r fun t ρ1 r1 => if t = true then va ρ1 r1 fun d r2 => Q d ρ1 r2 else vb ρ1 r1 fun d r2 => Q d ρ1 r2
end
def vCallT (vf : VFX) (v0 : VT) (va : VTA) : VT := fun ρ r Q => v0 ρ r fun d r1 => va ρ r1 fun ds r2 => isMut d = true ∧ vf (d :: ds) r2 fun x _ r3 => Q x r3
def vPar4 (i j l m : Nat) (va vb vc vd : VT) : VTS := fun N ρ r => va ρ r fun d r1 => vb ρ r1 fun e r2 => vc ρ r2 fun f r3 => vd ρ r3 fun g r4 => isMut d = true ∧ isMut e = true ∧ N.nx ((((ρ.set i (some d)).set j (some e)).set l (some f)).set m (some g)) r4
section
variable {ρ : En} {r : Rs} {Q : D → Rs → Prop} {QM : D → En → Rs → Prop} {QT : Bool → En → Rs → Prop} {N : VN} {v v1 v2 v3 v4 : VT} {i j l m : Nat} {t : Tgt} {vm : VTM} {c1 : VTT} {cm : VTMT} {va : VTA} {vfx : VFX} {as : List ArgV} {s s2 : VTS}
instance : St (vUpdate i v N ρ r) (∃ kvs, ρ[i]? = some (some (.dict kvs)) ∧ isTok kvs = false ∧ (kvs.map (·.1)).Nodup ∧ v ρ r fun d r1 => ∃ more, d = .dict (more.map fun p => (keyD p.1, p.2)) ∧ kvs.length + more.length ≤ 1000000 ∧ N.nx (ρ.set i (some (.dict (mergeD kvs more)))) r1) := ⟨id⟩
instance : St (vPop i ρ r QM) (∃ ds d, ρ[i]? = some (some (.list (ds ++ [d]))) ∧ QM d (ρ.set i (some (.list ds))) r) := ⟨id⟩
instance : St (vAsgM t vm N ρ r) (vm ρ r fun d ρ1 r1 => vBind t d ρ1 fun ρ' => N.nx ρ' r1) := ⟨id⟩
instance : St (vOrTM c1 cm ρ r QT) (c1 ρ r fun b r1 => if b = true then QT true ρ r1 else cm ρ r1 QT) := ⟨id⟩
instance : St (vAndTM c1 cm ρ r QT) (c1 ρ r fun b r1 => if b = true then cm ρ r1 QT else QT false ρ r1) := ⟨id⟩
instance : St (vIfEM cm v1 v2 ρ r QM) (cm ρ r fun t ρ1 r1 => if t = true then v1 ρ1 r1 fun d r2 => QM d ρ1 r2 else v2 ρ1 r1 fun d r2 => QM d ρ1 r2) := ⟨id⟩
instance : St (vCallT vfx v va ρ r Q) (v ρ r fun d r1 => va ρ r1 fun ds r2 => isMut d = true ∧ vfx (d :: ds) r2 fun x _ r3 => Q x r3) := ⟨id⟩
instance : St (vPar4 i j l m v1 v2 v3 v4 N ρ r) (v1 ρ r fun d r1 => v2 ρ r1 fun e r2 => v3 ρ r2 fun f r3 => v4 ρ r3 fun g r4 => isMut d = true ∧ isMut e = true ∧ N.nx ((((ρ.set i (some d)).set j (some e)).set l (some f)).set m (some g)) r4) := ⟨id⟩
end
end Sn
namespace Sn
open PySem PySem.Spec PyProof.Rows L2
def PT (v : VTT) (ρ : En) (r : Rs) (b : Bool) : Prop := ∀ Q : Bool → Rs → Prop, Q b r → v ρ r Q
section
variable {ρ : En} {r : Rs} {va vb v : VT} {ca cb : VTT} {d e x y z : D} {a b : Bool} {i : Nat}
/-- what is walked -/
def PI (v : VTI) (ρ : En) (r : Rs) (ds : List D) : Prop := ∀ Q : List D → Rs → Prop, Q ds r → v ρ r Q
end
end Sn
namespace PySem.SeqAt
open PySem MeetsSeq
end PySem.SeqAt
namespace Sn
open PySem PySem.Spec PyProof.Rows L2
def dSum : List D → (D → Prop) → Prop := fun ds Q => ∃ ns : List Int, ds = [.list (ns.map .int)] ∧ Q (.int ns.sum)
section
variable {X : Cx} {O : List Nat} {a : Expr} {vs : VTA} {p pos : Pos}
theorem ve_sum (hc : X.calm = true) (hg : Gl X "sum") (hm : X.mg "sum" = none) (ha : VAB X O [a] vs) (he : starEach [a] X.env = (false, eval a X.env) :: starEach [] X.env := by rfl) (hpl : (backTo pos (starEach [] X.env)).any (·.1) = false := by rfl) : VL X O (.Call (.Name "sum" p) [a] [] pos) (vCB dSum vs) := by
  refine vm_callB goodL (cr_sum hc) ?_ hg hm (by decide +kernel) ha (he := he) (hpl := hpl)
  intro A W H rs xs ds Q0 Q R m q k
  obtain ⟨ns, rfl, q⟩ := q
  cases m with
  | cons m1 m2 =>
    cases m2
    obtain ⟨l, ys, rfl, hl, hx⟩ := m1.lst
    obtain rfl := hx.ints
    exact ⟨l, ns, rfl, SqL.of hl, k _ q _ _ _ .refl R (.inr ⟨rfl, .int _⟩)⟩
end
def vIsiO (S : Addr → Prop) (v1 : VT) : VT := fun ρ r Q => v1 ρ r fun d r1 => (∃ C fs, S C ∧ d = dIns C fs) ∧ Q (.bool false) r1
section
variable {ρ : En} {r : Rs} {Q : D → Rs → Prop} {v1 : VT} {S : Addr → Prop}
instance : St (vIsiO S v1 ρ r Q) (v1 ρ r fun d r1 => (∃ C fs, S C ∧ d = dIns C fs) ∧ Q (.bool false) r1) := ⟨id⟩
end
def zipD (ds es : List D) : List D := (List.range (min ds.length es.length)).map fun i => .tuple [ds.getD i .none, es.getD i .none]
def vZipI (v u : VT) : VTI := fun ρ r Q => v ρ r fun d r1 => u ρ r1 fun e r2 => ∃ ds es, d = .list ds ∧ e = .list es ∧ Q (zipD ds es) r2
section
variable {ρ : En} {r : Rs} {v u : VT} {QA : List D → Rs → Prop}
instance : St (vZipI v u ρ r QA) (v ρ r fun d r1 => u ρ r1 fun e r2 => ∃ ds es, d = .list ds ∧ e = .list es ∧ QA (zipD ds es) r2) := ⟨id⟩
end
end Sn
namespace Sn
open PySem PySem.Spec PyProof.Rows L2
section
variable {K : PySem.W.Frag} {A : Amb} {W : Addr → Prop} {H H' : Hp} {r : Rs}
theorem ext_mv (R : Res K A W H r) {m : Nat} (D : Dr H' A.d A.g A.c m) (mv : Mv A.d A.g H H') : Ext K A W H W H' where
  fr := fun a o u e => mv a o (fun z => u (.inl z)) (fun z => u (.inr (.inl z))) e
  al := fun a e => by
    by_cases h1 : a = A.d
    · obtain ⟨l, t, _, _, h⟩ := D.di
      rw [h1, h] at e; cases e
    · by_cases h2 : a = A.g
      · obtain ⟨l, h⟩ := D.gr
        rw [h2, h] at e; cases e
      · cases h : H a with
        | none => rfl
        | some o => rw [mv a o h1 h2 h] at e; cases e
  tp := fun a xs e => by
    have nd : ∀ o, H A.d = some o → ∃ k, o = .dK k := fun o h => by obtain ⟨l, t, _, _, h'⟩ := R.dr.di; rw [h'] at h; cases h; exact ⟨_, rfl⟩
    have ng : ∀ o, H A.g = some o → ∃ k, o = .lst k := fun o h => by obtain ⟨l, h'⟩ := R.dr.gr; rw [h'] at h; cases h; exact ⟨_, rfl⟩
    rcases e with (h | ⟨o, h⟩) | h
    · refine .inl (.inl (mv _ _ (fun z => ?_) (fun z => ?_) h))
      · obtain ⟨k, e⟩ := nd _ (by rw [← z]; exact h); cases e
      · obtain ⟨k, e⟩ := ng _ (by rw [← z]; exact h); cases e
    · refine .inl (.inr ⟨o, mv _ _ (fun z => ?_) (fun z => ?_) h⟩)
      · obtain ⟨k, e⟩ := nd _ (by rw [← z]; exact h); cases e
      · obtain ⟨k, e⟩ := ng _ (by rw [← z]; exact h); cases e
    · exact .inr h
  wk := fun _ w => w
  wn := fun _ w => .inl w
theorem res_mv (R : Res K A W H r) {m : Nat} (D : Dr H' A.d A.g A.c m) (mv : Mv A.d A.g H H') : Res K A W H' { r with m := m } where
  dr := D
  sc := R.sc.mov fun sk o e => by
    refine mv _ _ (fun z => ?_) (R.sg sk) e
    obtain ⟨l, t, _, _, h'⟩ := R.dr.di
    rcases R.sc with ⟨_, h | ⟨u, h⟩⟩ | ⟨e', _⟩
    · rw [z, h'] at h; cases h
    · rw [z, h'] at h; cases h
    · rw [sk] at e'; cases e'
  sl := R.sl
  sg := R.sg
  le := R.le
  ce := fun n a d e1 e2 => by
    have ha := List.mem_of_getElem? e1
    have x := ext_mv R D mv
    exact (R.ce n a d e1 e2).ext x R.av fun o e => mv a o (fun z => R.na.1 (by rw [← z]; exact ha)) (fun z => R.na.2.1 (by rw [← z]; exact ha)) e
  nd := R.nd
  na := R.na
  av := R.av
  wa := fun a w e => R.wa a w ((ext_mv R D mv).al a e)
end
def vfTake : VF := fun ds r Q => ∃ n : Int, ds = [dSt, .int n] ∧ 0 < n ∧ n < 1000000000 ∧ r.m ≤ 1000000000 ∧ ∀ k : Int, 0 ≤ k → k < n → Q (.int k) { r with m := r.m + 1 }
/-- pick of a text's signs or of a list -/
def vfPick : VF := fun ds r Q => r.m ≤ 1000000000 ∧ ((∃ z : Str, ds = [dSt, .str z] ∧ 0 < z.length ∧ z.length ≤ 1000 ∧ ∀ x : Nat, x ∈ z.cps.toList → Q (.str ⟨#[x]⟩) { r with m := r.m + 1 }) ∨
  ∃ xs : List D, ds = [dSt, .list xs] ∧ 0 < xs.length ∧ xs.length ≤ 1000 ∧ ∀ x ∈ xs, Q x { r with m := r.m + 1 })
theorem i_pickL {xs : List D} {r : Rs} {Q : D → Rs → Prop} (hm : r.m ≤ 1000000000) (h0 : 0 < xs.length) (h1 : xs.length ≤ 1000) (q : ∀ x ∈ xs, Q x { r with m := r.m + 1 }) : vfPick [dSt, .list xs] r Q := ⟨hm, .inr ⟨xs, rfl, h0, h1, q⟩⟩
theorem i_pickS {z : Str} {r : Rs} {Q : D → Rs → Prop} (hm : r.m ≤ 1000000000) (h0 : 0 < z.length) (h1 : z.length ≤ 1000) (q : ∀ x : Nat, x ∈ z.cps.toList → Q (.str ⟨#[x]⟩) { r with m := r.m + 1 }) : vfPick [dSt, .str z] r Q := ⟨hm, .inl ⟨z, rfl, h0, h1, q⟩⟩
theorem i_take {n : Int} {r : Rs} {Q : D → Rs → Prop} (hm : r.m ≤ 1000000000) (h0 : 0 < n) (h1 : n < 1000000000) (q : ∀ k : Nat, (k : Int) < n → Q (.int k) { r with m := r.m + 1 }) : vfTake [dSt, .int n] r Q := ⟨n, rfl, h0, h1, hm, fun k k0 k1 => by
  have := q k.toNat (by omega)
  rwa [Int.toNat_of_nonneg k0] at this⟩
section
variable {P : Program} {w : World} {K : PySem.W.Frag} {mg : Str → Option Value} {base : Heap}
theorem vok_take (T : Txt K mg) : FnOk P w K mg base CX0 2 T.f_law_take T.fd_law_take ["_law_state", "_law_size"] (spV K mF vfTake) := (ok_take T).imp fun vs H Q E h => by
  obtain ⟨A, W, ds, r, Q0, R, hv, ⟨n, rfl, h0, h1, hm, q⟩, k⟩ := h
  cases hv with
  | cons h2 hv =>
    cases hv with
    | cons h3 hv =>
      cases hv
      obtain rfl := h2.stIs
      cases h3
      exact ⟨A.d, A.g, A.c, r.m, n, rfl, R.dr, hm, h0, h1, fun x H' x0 x1 D mv => k _ _ (q x x0 x1) _ H' W (ext_mv R D mv) (res_mv R D mv) (.int _)⟩
theorem vok_pick (T : Txt K mg) : FnOk P w K mg base CX0 3 T.f_law_pick T.fd_law_pick ["_law_state", "_law_some"] (spV K mF vfPick) := (ok_pick T).imp fun vs H Q E h => by
  obtain ⟨A, W, ds, r, Q0, R, hv, ⟨hm, q⟩, k⟩ := h
  refine ⟨A.d, A.g, A.c, r.m, R.dr, hm, ?_⟩
  rcases q with ⟨z, rfl, h0, h1, q⟩ | ⟨xs, rfl, h0, h1, q⟩
  · cases hv with
    | cons h2 hv =>
      cases hv with
      | cons h3 hv =>
        cases hv
        obtain rfl := h2.stIs
        cases h3
        exact .inl ⟨z, rfl, h0, h1, fun x H' hx D mv => k _ _ (q x hx) _ H' W (ext_mv R D mv) (res_mv R D mv) (.str _)⟩
  · cases hv with
    | cons h2 hv =>
      cases hv with
      | cons h3 hv =>
        cases hv
        obtain rfl := h2.stIs
        cases h3 with
        | lst hw h4 h5 =>
          rename_i p vs
          refine .inr ⟨p, vs, rfl, h4, fun z => R.av p hw (.inr (.inl z)), by rw [h5.len]; exact h0, by rw [h5.len]; exact h1, fun x H' hx D mv => ?_⟩
          obtain ⟨i, hi, rfl⟩ := List.getElem_of_mem hx
          obtain ⟨d, e, hd⟩ := h5.getV (List.getElem?_eq_getElem hi)
          exact k d _ (q d (List.mem_of_getElem? e)) _ H' W (ext_mv R D mv) (res_mv R D mv) (hd.ext (ext_mv R D mv) R.av)
end
def lawEnd : VN := ⟨fun _ _ => False, fun d _ => d = .bool true, fun _ _ => False, fun _ _ => False⟩
def lawEn (n : Nat) : En := some dScr :: some dSt :: List.replicate n none
theorem lift_law {K : PySem.W.Frag} {a d g c : Addr} {ns : List Int} {H H1 : Hp} {n : Nat} {O' : List Nat} {vts : VTS} {Q : VK} {nx : L2.St → Hp → Prop} (hS : SqL K H a (ns.map V.int)) (s1 : Same H H1) (ng : H g = none) (D : Dr H1 d g c 0)
    (k : ∀ H', Q (.bl true) H') (law : vts lawEnd (lawEn n) ⟨0, [], ns.length⟩) : liftS K mF [] [] O' vts { nx := nx, rt := Q } (some (.ref a) :: some (.ref d) :: List.replicate n none) H1 := by
  obtain ⟨sk, hsc, hsg⟩ : ∃ sk : Bool, (∀ A : Amb, A.s = a → A.sk = sk → A.ns = ns → ScrOk K A H1) ∧ (sk = true → a ≠ g) := by
    rcases hS with h | h
    · refine ⟨true, fun A e1 e2 e3 => .inl ⟨e2, ?_⟩, fun _ e => ?_⟩
      · rw [e1, e3]
        rcases h with h | ⟨o, h⟩
        · exact .inl (s1 _ _ h)
        · exact .inr ⟨o, s1 _ _ h⟩
      · rw [← e] at ng
        rcases h with h | ⟨o, h⟩ <;> (rw [h] at ng; cases ng)
    · exact ⟨false, fun A e1 e2 e3 => .inr ⟨e2, by rw [e1, e3]; exact h⟩, fun e => by cases e⟩
  let A : Amb := ⟨d, g, c, [], a, sk, ns, []⟩
  have R : Res K A (fun _ => False) H1 ⟨0, [], ns.length⟩ :=
    ⟨D, hsc A rfl rfl rfl, rfl, hsg, rfl, fun n a d e => (by simp [A] at e), List.nodup_nil, ⟨by simp [A], by simp [A], by simp [A], fun _ => by simp [A]⟩, fun _ z => z.elim, fun _ z => z.elim⟩
  refine ⟨A, _, H1, _, lawEn n, _, lawEnd, ⟨by simp [lawEn], fun i d e _ => ?_, fun i d e z => absurd z.1 (by simp), fun i d e z => absurd z (by simp), fun i z => absurd z (by simp), fun i a z => absurd z (by simp [A]), fun i j a d e z => absurd z.1 (by simp), R, .refl⟩, law, fun _ _ z => z.elim, fun dd r' e v H' W' x R' m => ?_, fun _ _ z => z.elim, fun _ _ z => z.elim⟩
  · match i with
    | 0 => cases e; exact ⟨_, rfl, .scr⟩
    | 1 => cases e; exact ⟨_, rfl, .st⟩
    | i + 2 =>
      have e : (List.replicate n none : En)[i]? = some (some d) := e
      have := List.mem_of_getElem? e
      rw [List.mem_replicate] at this
      cases this.2
  · have e : dd = .bool true := e
    subst e
    have m : Dw K A W' H' v (.bool true) := m
    cases m
    exact k H'
end Sn
namespace Sn
open PySem PySem.Spec PyProof.Rows L2
def MvT (H H' : Hp) : Prop := ∀ a xs, H a = some (.tup xs) → H' a = some (.tup xs)
def St1 (H : Hp) (v : V) (dd : PyData) : Prop := ∀ H', MvT H H' → Dh H' v dd
def StA (H : Hp) (vs : List V) (ds : List PyData) : Prop := ∀ H', MvT H H' → DhAll H' vs ds
section
variable {d g c : Addr} {H H' : Hp} {m : Nat} {v : V} {vs : List V} {dd : PyData} {ds : List PyData} {K : PySem.W.Frag}
theorem MvT.refl : MvT H H := fun _ _ e => e
theorem MvT.trans {H2 : Hp} (a : MvT H H') (b : MvT H' H2) : MvT H H2 := fun x xs e => b _ _ (a _ _ e)
theorem MvT.same (s : Same H H') : MvT H H' := fun a xs e => s _ _ e
theorem MvT.mv (D : Dr H d g c m) (v : Mv d g H H') : MvT H H' := fun a xs e => by
  obtain ⟨⟨l, k, _, _, hd⟩, ⟨gs, hg⟩, _, _⟩ := D
  exact v _ _ (fun z => by rw [z, hd] at e; cases e) (fun z => by rw [z, hg] at e; cases e) e
theorem MvT.put {B : Addr} {l l' : List V} (h : H B = some (.lst l)) : MvT H (upd H B (.lst l')) := fun a xs e => by
  rw [upd_ne (fun z => by rw [z, h] at e; cases e)]
  exact e
theorem St1.mv (h : St1 H v dd) (m : MvT H H') : St1 H' v dd := fun H2 m2 => h H2 (m.trans m2)
theorem StA.mv (h : StA H vs ds) (m : MvT H H') : StA H' vs ds := fun H2 m2 => h H2 (m.trans m2)
theorem StA.nil : StA H [] [] := fun _ _ => .nil
theorem StA.cons (h : St1 H v dd) (a : StA H vs ds) : StA H (v :: vs) (dd :: ds) := fun H' m => .cons (h H' m) (a H' m)
theorem StA.app {ws : List V} {es : List PyData} (a : StA H vs ds) (b : StA H ws es) : StA H (vs ++ ws) (ds ++ es) := fun H' m => (a H' m).app (b H' m)
theorem StA.at (h : StA H vs ds) : DhAll H vs ds := h H .refl
theorem St1.str (z : Str) : St1 H (.str z) (.str z) := fun _ _ => .str z
theorem StA.all (h : ∀ H2, DhAll H2 vs ds) : StA H vs ds := fun H' _ => h H'
theorem St1.tup {p : Addr} (hp : H p = none) (a : StA H vs ds) : St1 (upd H p (.tup vs)) (.ref p) (.tuple ds) := fun H' mv =>
  .tup (mv _ _ upd_same) (a H' ((MvT.same (same_new hp)).trans mv))
theorem StA.cut (a : StA H vs ds) (lo hi : Option Int) : StA H (cutV vs lo hi) (cutD ds lo hi) := fun H' m => by
  have b := a H' m
  unfold cutV cutD
  rw [b.len]
  exact (b.drop _).take _
end
end Sn
namespace Sn
open PySem PySem.Spec PyProof.Rows L2
section
variable {K : PySem.W.Frag} {A : Amb} {W : Addr → Prop} {H : Hp}
def tupsOnly (H : Hp) : Hp := fun a => match H a with
  | some (.tup xs) => some (.tup xs)
  | _ => none
theorem tupsOnly_at {a : Addr} {o : HO} (h : tupsOnly H a = some o) : ∃ xs, o = .tup xs ∧ H a = some (.tup xs) := by
  unfold tupsOnly at h
  split at h
  · rename_i xs e
    cases h
    exact ⟨xs, rfl, e⟩
  · cases h
mutual
theorem Dh.dwT : ∀ {v : V} {d : D}, Dh (tupsOnly H) v d → Dw K A W H v d
  | _, _, .non => .non
  | _, _, .bl b => .bl b
  | _, _, .int i => .int i
  | _, _, .str z => .str z
  | _, _, .lst h _ => by obtain ⟨_, e, _⟩ := tupsOnly_at h; cases e
  | _, _, .tup h a => by
    obtain ⟨_, e, h2⟩ := tupsOnly_at h
    cases e
    exact .tup (.inl (.inl h2)) (DhAll.dwT a)
  | _, _, .dk h => by obtain ⟨_, e, _⟩ := tupsOnly_at h; cases e
theorem DhAll.dwT : ∀ {vs : List V} {ds : List D}, DhAll (tupsOnly H) vs ds → DwA K A W H vs ds
  | _, _, .nil => .nil
  | _, _, .cons h a => .cons (Dh.dwT h) (DhAll.dwT a)
end
theorem St1.dw {v : V} {d : D} (h : St1 H v d) : Dw K A W H v d := Dh.dwT (h (tupsOnly H) fun a xs e => by unfold tupsOnly; rw [e])
end
end Sn
namespace Sn
open PySem PySem.Spec PyProof.Rows L2
def sg (c : Nat) : Str := ⟨#[c]⟩
/-- an answer, or an index below k -/
def ChK (k : Nat) (d : D) : Prop := (∃ c, d = .str (sg c) ∧ 32 ≤ c ∧ c ≤ 126) ∨ ∃ j : Nat, d = .int (j : Int) ∧ j < k
/-- choices -/
def ChsK (k : Nat) (ds : List D) : Prop := ds.length ≤ 1000 ∧ ∀ d ∈ ds, ChK k d
/-- rows: each by its choices -/
def rowD (cs : List D) : D := .tuple [.str "m.a", .tuple [.str ""], .tuple cs]
def RowsK (rows : List (List D)) : Prop := rows.length ≤ 2000 ∧ ∀ (k : Nat) (cs : List D), rows[k]? = some cs → ChsK k cs
end Sn
namespace Sn
open PySem PySem.Spec PyProof.Rows L2
theorem _root_.L2.SqL.at {K : PySem.W.Frag} {H : Hp} {a : Addr} {xs : List V} (h : H a = some (.lst xs)) : SqL K H a xs := .inl (.inl h)
end Sn
namespace Sn
open PySem PySem.Spec PyProof.Rows L2 TL
def signOk (c : Nat) : Bool := decide (32 ≤ c) && decide (c ≤ 126)
section
variable {P : Program} {w : World} {K : PySem.W.Frag} {mg : Str → Option Value} {base : Heap}
def spIsStr : Sp := fun vs H Q _ => ∃ (z : Str) (m : Int), vs = [.str z, .int m] ∧ z.length ≤ 1000 ∧ ∀ H', Same H H' → Q (.bl (decide ((z.length : Int) ≤ m) && (tl z).all signOk)) H'
theorem sign_le (c : Nat) : (!decide ((⟨#[c]⟩ : Str).cps.toList < (" " : Str).cps.toList)) = decide (32 ≤ c) := by
  have e : (" " : Str).cps.toList = [32] := by decide +kernel
  rw [e]
  show (!decide ([c] < [32])) = _
  by_cases h : 32 ≤ c
  · rw [decide_eq_true h, decide_eq_false (by simp [List.cons_lt_cons_iff]; omega)]; rfl
  · rw [decide_eq_false h, decide_eq_true (by simp [List.cons_lt_cons_iff]; omega)]; rfl
theorem sign_ge (c : Nat) : (!decide (("~" : Str).cps.toList < (⟨#[c]⟩ : Str).cps.toList)) = decide (c ≤ 126) := by
  have e : ("~" : Str).cps.toList = [126] := by decide +kernel
  rw [e]
  show (!decide ([126] < [c])) = _
  by_cases h : c ≤ 126
  · rw [decide_eq_true h, decide_eq_false (by simp [List.cons_lt_cons_iff]; omega)]; rfl
  · rw [decide_eq_false h, decide_eq_true (by simp [List.cons_lt_cons_iff]; omega)]; rfl
theorem ok_isStr (T : Txt K mg) : FnOk P w K mg base CX0 1 T.f_is_string T.fd_is_string ["value", "most"] spIsStr := by
  refine T.F_is_string.ok sc_is_string (fun vs H Q E h => ?_) (fun cdv A outer s H vs Q E hr h => ?_)
  · obtain ⟨z, m, rfl, _⟩ := h
    rfl
  · obtain ⟨z, m, rfl, hz, k⟩ := h
    refine ⟨_, (pss_one (ps_ret (pe_and (pe_callB (call_isiN (K := K)) (by rfl) T.z_isinstance (by decide +kernel) (pa_cons (pv 0) (pa_cons (pe_bltn (v := .ty "str") (by rfl) T.z_str (by decide +kernel) rfl) pa_nil))) (pe_and (pe_cmpR op_le (pe_callB (call_lenN (K := K)) (by rfl) T.z_len (by decide +kernel) (pa_cons (pv 0) pa_nil)) (pv 1) (nomark _)) (pe_one (pe_callB (cr_all rfl) (by rfl) T.z_all (by decide +kernel) (pa_cons (pe_lc (own := [("sign", 2)]) (g := gName 2) (by rfl) sc_is_string.nd (pi_str (pv 0)) (blkOk_by (own := [("sign", 2)]) (N := n_is_string) (sc := defScope s_is_string) (by decide +kernel)) (fun _ _ _ _ _ => (pg_name (i := 2) sc_is_string.nd rfl (Or.inl rfl))) (fun _ _ _ _ _ => pts_nil) (fun _ _ _ _ _ => (pe_chain op_le_str op_le_str pe_str (pv 2) pe_str))) pa_nil))))))), ?_⟩
    have hd : Dh H (.str z) (.str z) := .str z
    refine ⟨_, rfl, _, .ty "str", _, .type "str", _, rfl, .ty "str", hd.ty, kit_s, _, rfl, iteT ?_⟩
    refine ⟨_, rfl, _, z.length, rfl, ⟨Nat.le_of_lt (small1000 hz), rfl⟩, _, rfl, _, _, rfl, rfl, _, rfl, ?_⟩
    by_cases hm : (z.length : Int) ≤ m
    · rw [decide_eq_true hm]
      refine iteT ?_
      refine ⟨_, rfl, z, rfl, fun D hD => ?_⟩
      refine lc_out walk_str (fun i => .bl (signOk ((tl z).getD i 0))) (by exact hz) hD (fun _ _ => trivial) ?_ ?_
      · rintro i x H1 H2 Qg hi s1 ⟨rfl, c, hc, rfl⟩ kk
        have hc2 : (tl z)[i]? = some c := by simpa using hc
        refine kk _ _ (Same.refl _) rfl fun R hR => ?_
        have hR := hR H2 (Same.refl _)
        rw [getD_of hc2] at hR
        refine ⟨_, rfl, _, _, rfl, rfl, _, rfl, ?_⟩
        rw [sign_le]
        cases h1 : decide (32 ≤ c) with
        | true =>
          refine iteT ⟨_, _, rfl, rfl, ?_⟩
          rw [sign_ge]
          unfold signOk at hR
          rw [h1, Bool.true_and] at hR
          exact hR
        | false =>
          unfold signOk at hR
          rw [h1, Bool.false_and] at hR
          exact iteF hR
      · intro H1 s1 hl
        have e : (List.range z.cps.size).map (fun i => V.bl (signOk ((tl z).getD i 0))) = ((List.range z.cps.size).map fun i => signOk ((tl z).getD i 0)).map V.bl := by rw [List.map_map]; rfl
        rw [e] at hl
        refine ⟨D, _, rfl, .inl (.inl hl), ?_⟩
        have q := k H1 s1
        rw [decide_eq_true hm, Bool.true_and] at q
        have e2 : (((List.range z.cps.size).map fun i => signOk ((tl z).getD i 0)).all id) = (tl z).all signOk := by
          rw [List.all_map]
          have := all_range signOk 0 (tl z)
          rw [show (tl z).length = z.cps.size by simp] at this
          exact this
        show Q (.bl _) H1
        rw [e2]
        exact q
    · rw [decide_eq_false hm]
      have q := k H (Same.refl H)
      rw [decide_eq_false hm, Bool.false_and] at q
      exact iteF q
end
end Sn
namespace Sn
open PySem PySem.Spec PyProof.Rows L2 TL
theorem ll_K43a_0 : ("" : Str).length = 0 := by decide +kernel
local macro_rules | `(tactic| infer_instance) => `(tactic| simp only [ty_tt, ty_ts, ty_ti, ty_tl, ty_ss, ty_st])
local macro_rules | `(tactic| infer_instance) => `(tactic| assumption)
local macro_rules | `(tactic| infer_instance) => `(tactic| dsimp only [List.set, wipeE])
local macro_rules | `(tactic| infer_instance) => `(tactic| ((with_reducible refine i_pg ?_ ?_); · assumption))
local macro_rules | `(tactic| infer_instance) => `(tactic| ((with_reducible refine i_askW ?_ ?_); · assumption))
local macro_rules | `(tactic| infer_instance) => `(tactic| ((with_reducible refine i_askN ?_ ?_); · assumption))
local macro_rules | `(tactic| infer_instance) => `(tactic| ((with_reducible refine i_okT ?_ ?_); · assumption))
local macro_rules | `(tactic| infer_instance) => `(tactic| ((with_reducible refine i_cStrF ?_ ?_); · decide +kernel))
local macro_rules | `(tactic| infer_instance) => `(tactic| ((with_reducible refine i_cStrT ?_ ?_); · rfl))
local macro_rules | `(tactic| infer_instance) => `(tactic| ((with_reducible refine i_cGF ?_ ?_); · rfl))
local macro_rules | `(tactic| infer_instance) => `(tactic| ((with_reducible refine i_cGT ?_ ?_); · rfl))
local macro_rules | `(tactic| infer_instance) => `(tactic| ((with_reducible refine i_cIntF ?_ ?_); · rfl))
local macro_rules | `(tactic| infer_instance) => `(tactic| ((with_reducible refine i_cIntT ?_ ?_); · rfl))
local macro_rules | `(tactic| infer_instance) => `(tactic| ((with_reducible apply i_appPop); (focus rfl); (focus rfl)))
local macro_rules | `(tactic| infer_instance) => `(tactic| ((with_reducible apply i_insert); · rfl))
local macro_rules | `(tactic| infer_instance) => `(tactic| ((with_reducible refine i_look2F ?_ ?_); · decide +kernel))
local macro_rules | `(tactic| infer_instance) => `(tactic| ((with_reducible refine i_look2T ?_ ?_); · rfl))
local macro_rules | `(tactic| infer_instance) => `(tactic| ((with_reducible refine i_lookF ?_ ?_); · decide +kernel))
local macro_rules | `(tactic| infer_instance) => `(tactic| ((with_reducible refine i_lookT ?_ ?_); · rfl))
local macro_rules | `(tactic| infer_instance) => `(tactic| ((with_reducible refine i_exdict ?_ ?_); · rfl))
local macro_rules | `(tactic| infer_instance) => `(tactic| ((with_reducible refine i_dget2 ?_ ?_); · rfl))
local macro_rules | `(tactic| infer_instance) => `(tactic| ((with_reducible refine i_dget ?_ ?_); · rfl))
local macro_rules | `(tactic| infer_instance) => `(tactic| ((with_reducible refine i_dispQ ?_ ?_); · decide +kernel))
local macro_rules | `(tactic| infer_instance) => `(tactic| ((with_reducible refine i_le ?_ ?_); · (simp only [List.length_append, List.length_map, List.length_replicate, List.length_cons, List.length_nil, sizeLine_eq]; omega)))
local macro_rules | `(tactic| infer_instance) => `(tactic| ((with_reducible refine i_lt ?_ ?_); · (simp only [List.length_append, List.length_map, List.length_replicate, List.length_cons, List.length_nil, sizeLine_eq]; omega)))
local macro_rules | `(tactic| infer_instance) => `(tactic| ((with_reducible refine i_addL ?_ ?_); · (simp only [List.length_append, List.length_map, List.length_replicate, List.length_cons, List.length_nil, sizeLine_eq]; omega)))
local macro_rules | `(tactic| infer_instance) => `(tactic| ((with_reducible refine i_addS ?_ ?_); · (simp only [len_app, sizeLine_eq, ll_emp, ll_K43a_0]; omega)))
local macro_rules | `(tactic| infer_instance) => `(tactic| ((with_reducible refine i_fmtS ?_ ?_); · (simp only [len_app, sizeLine_eq, ll_emp, ll_K43a_0]; omega)))
local macro_rules | `(tactic| infer_instance) => `(tactic| ((with_reducible refine i_le ?_ ?_); · (simp only [len_app, sizeLine_eq, ll_emp, ll_K43a_0]; omega)))
local macro_rules | `(tactic| infer_instance) => `(tactic| ((with_reducible apply i_ty); · rfl))
local macro_rules | `(tactic| infer_instance) => `(tactic| ((with_reducible refine i_ninTf ?_ ?_ ?_); (focus rfl); (focus (decide +kernel))))
local macro_rules | `(tactic| infer_instance) => `(tactic| ((with_reducible refine i_ninTt ?_ ?_ ?_); (focus rfl); (focus (decide +kernel))))
local macro_rules | `(tactic| infer_instance) => `(tactic| ((with_reducible refine i_inLf ?_ ?_ ?_); (focus rfl); (focus (decide +kernel))))
local macro_rules | `(tactic| infer_instance) => `(tactic| ((with_reducible refine i_inLt ?_ ?_ ?_); (focus rfl); (focus (decide +kernel))))
local macro_rules | `(tactic| infer_instance) => `(tactic| ((with_reducible refine i_inTf ?_ ?_ ?_); (focus rfl); (focus (decide +kernel))))
local macro_rules | `(tactic| infer_instance) => `(tactic| ((with_reducible refine i_inTt ?_ ?_ ?_); (focus rfl); (focus (decide +kernel))))
local macro_rules | `(tactic| infer_instance) => `(tactic| ((with_reducible apply i_extend); · rfl))
local macro_rules | `(tactic| infer_instance) => `(tactic| ((with_reducible apply i_append); · rfl))
local macro_rules | `(tactic| infer_instance) => `(tactic| ((with_reducible refine i_notNf ?_ ?_); · rfl))
local macro_rules | `(tactic| infer_instance) => `(tactic| ((with_reducible refine i_notNt ?_ ?_); · rfl))
local macro_rules | `(tactic| infer_instance) => `(tactic| ((with_reducible refine i_isNf ?_ ?_); · rfl))
local macro_rules | `(tactic| infer_instance) => `(tactic| ((with_reducible refine i_isNt ?_ ?_); · rfl))
local macro_rules | `(tactic| infer_instance) => `(tactic| ((with_reducible apply i_ixL); · rfl))
local macro_rules | `(tactic| infer_instance) => `(tactic| ((with_reducible apply i_ixT); · rfl))
local macro_rules | `(tactic| infer_instance) => `(tactic| ((with_reducible refine i_neF ?_ ?_); · decide +kernel))
local macro_rules | `(tactic| infer_instance) => `(tactic| ((with_reducible refine i_neT ?_ ?_); · rfl))
local macro_rules | `(tactic| infer_instance) => `(tactic| ((with_reducible refine i_neF ?_ ?_); · assumption))
local macro_rules | `(tactic| infer_instance) => `(tactic| ((with_reducible refine i_eqF ?_ ?_); · assumption))
local macro_rules | `(tactic| infer_instance) => `(tactic| ((with_reducible refine i_eqF ?_ ?_); · decide +kernel))
local macro_rules | `(tactic| infer_instance) => `(tactic| ((with_reducible refine i_eqT ?_ ?_); · rfl))
local macro_rules | `(tactic| infer_instance) => `(tactic| ((with_reducible refine i_dNF ?_ ?_); (focus first | decide | omega | rfl | (simp only [List.length_cons, List.length_nil]; omega))))
local macro_rules | `(tactic| infer_instance) => `(tactic| ((with_reducible refine i_dNT ?_ ?_); (focus first | decide | omega | rfl | (simp only [List.length_cons, List.length_nil]; omega))))
local macro_rules | `(tactic| infer_instance) => `(tactic| ((with_reducible refine i_dF ?_ ?_); (focus first | decide | omega | rfl | (simp only [List.length_cons, List.length_nil]; omega))))
local macro_rules | `(tactic| infer_instance) => `(tactic| ((with_reducible refine i_dT ?_ ?_); (focus first | decide | omega | rfl | (simp only [List.length_cons, List.length_nil]; omega))))
local macro_rules | `(tactic| infer_instance) => `(tactic| ((with_reducible apply i_var); · rfl))
local macro_rules | `(tactic| infer_instance) => `(tactic| ((with_reducible refine i_fs ?_ ?_); (focus first | decide | (simp only [List.length_cons, List.length_nil]; omega))))
local macro_rules | `(tactic| infer_instance) => `(tactic| ((with_reducible apply i_exLk); · rfl))
local macro_rules | `(tactic| infer_instance) => `(tactic| ((with_reducible apply i_exE); · rfl))
local macro_rules | `(tactic| infer_instance) => `(tactic| ((with_reducible refine i_dinK ?_ ?_); · rfl))
local macro_rules | `(tactic| infer_instance) => `(tactic| with_reducible refine i_exL1 ?_)
local macro_rules | `(tactic| infer_instance) => `(tactic| ((with_reducible apply i_fld); · rfl))
local macro_rules | `(tactic| infer_instance) => `(tactic| with_reducible refine i_exI ?_)
local macro_rules | `(tactic| infer_instance) => `(tactic| ((with_reducible apply i_exD); · rfl))
local macro_rules | `(tactic| infer_instance) => `(tactic| ((with_reducible apply i_exK); · rfl))
local macro_rules | `(tactic| infer_instance) => `(tactic| ((with_reducible apply i_exF); · rfl))
local macro_rules | `(tactic| infer_instance) => `(tactic| (with_reducible refine St.go ?_))
def vfIsS : VF := fun ds r Q => ∃ c : Nat, ds = [.str (sg c), .int 1] ∧ 32 ≤ c ∧ c ≤ 126 ∧ Q (.bool true) r
def vfTupS : VF := fun ds r Q => ∃ zs : List Str, ds = [.tuple (zs.map .str)] ∧ zs.length ≤ 1000 ∧ Q (.bool true) r
def vfIsC : VF := fun ds r Q => ∃ (d : D) (k : Nat), ds = [d, .int (k : Int)] ∧ ChK k d ∧ Q (.bool true) r
def vfAreC : VF := fun ds r Q => ∃ (cs : List D) (k : Nat), ds = [.tuple cs, .int (k : Int)] ∧ ChsK k cs ∧ Q (.bool true) r
def vfIsR : VF := fun ds r Q => ∃ (cs : List D) (k : Nat), ds = [rowD cs, .int (k : Int)] ∧ ChsK k cs ∧ Q (.bool true) r
theorem sg_ne (c : Nat) : sg c ≠ "" := fun z => by
  have h := congrArg Str.length z
  have e1 : (sg c).length = 1 := rfl
  have e2 : ("" : Str).length = 0 := by decide +kernel
  rw [e1, e2] at h
  cases h
theorem i_allK {α : Type} {xs : List α} {R : D → Prop} (q : R (.bool true)) : dAll [.list (xs.map fun _ => PyData.bool true)] R := ⟨xs.map fun _ => true, by rw [List.map_map]; rfl, by
  have e : (xs.map fun _ => true).all id = true := by simp
  rw [e]; exact q⟩
section
variable {P : Program} {w : World} {K : PySem.W.Frag} {mg : Str → Option Value} {base : Heap}
theorem vok_isS (T : Txt K mg) : FnOk P w K mg base CX0 1 T.f_is_string T.fd_is_string ["value", "most"] (spV K mF vfIsS) := (ok_isStr T).imp fun vs H Q E h => by
  obtain ⟨A, W, ds, r, Q0, R, hv, ⟨c, rfl, h1, h2, q⟩, k⟩ := h
  cases hv with
  | cons h3 hv =>
    cases hv with
    | cons h4 hv =>
      cases hv
      cases h3
      cases h4
      refine ⟨sg c, 1, rfl, by show 1 ≤ 1000; decide, fun H' s => ?_⟩
      have e : (decide (((sg c).length : Int) ≤ 1) && (tl (sg c)).all signOk) = true := by
        have e1 : (sg c).length = 1 := rfl
        have e2 : tl (sg c) = [c] := rfl
        rw [e1, e2]
        simp [signOk, h1, h2]
      rw [e]
      exact k _ _ q _ H' W (Ext.same s) (R.same s) (.bl _)
theorem vok_tupS (T : Txt K mg) : FnOk P w K mg base CX0 1 T.f_is_tuple_of_strings T.fd_is_tuple_of_strings ["value"] (spV K mF vfTupS) := by
  refine okV (M := mF) (O' := []) T.F_is_tuple_of_strings sc_is_tuple_of_strings ?_ (fun cdv A outer s H E hr => (vss_one (vs_ret (ve_and (ve_isi (Ts := "tuple") (by decide +kernel) (by decide +kernel) (by rfl) T.z_isinstance (by rfl) T.z_tuple (ve_var (pv 0)).vb).ve (ve_one (ve_all rfl (by rfl) T.z_all (vab_cons (vl_lc (own := [("part", 1)]) (t := (.nm 1)) rfl sc_is_tuple_of_strings.nd (vi_seq (ve_var (pv 0))) (blkOk_by (N := n_is_tuple_of_strings) (sc := defScope s_is_tuple_of_strings) (by decide +kernel)) (fun _ _ _ _ _ => (pg_name (i := 1) sc_is_tuple_of_strings.nd rfl (Or.inl rfl))) (fun _ _ _ _ _ => vpts_nil) (fun _ _ _ _ _ => (ve_isi (Ts := "str") (by decide +kernel) (by decide +kernel) (by rfl) T.z_isinstance (by rfl) T.z_str (ve_var (pv 1)).vb).ve)).vb vab_nil)).ve))))) ?_
  · rintro ds r Q ⟨c, rfl, _⟩
    rfl
  · rintro ds r Q ⟨zs, rfl, hz, k⟩
    rw [show startV n_is_tuple_of_strings [.tuple (zs.map .str)] = [some (.tuple (zs.map .str)), none] from rfl]
    repeat infer_instance
    refine i_go (fun _ => .bool true) (fun d hd R q => ?_) ?_
    · obtain ⟨z, hz2, rfl⟩ := List.mem_map.mp hd
      repeat infer_instance
    · repeat infer_instance
      exact i_allK k
theorem vok_isC (T : Txt K mg) : FnOk P w K mg base CX0 2 T.f_is_choice T.fd_is_choice ["value", "most"] (spV K mF vfIsC) := by
  refine okV (M := mF) (O' := []) T.F_is_choice sc_is_choice ?_ (fun cdv A outer s H E hr => (vss_cons (vs_if (vt_val (ve_isi (Ts := "str") (by decide +kernel) (by decide +kernel) (by rfl) T.z_isinstance (by rfl) T.z_str (ve_var (pv 0)).vb).ve)
        (vss_one (vs_ret (ve_and (ve_cmp (cp_ne hr.units) (ve_var (pv 0)).vb ve_str.vb).ve (ve_one (ve_call (vok_isS T) (hr.mono (by decide)) (by rfl) T.g_is_string T.F_is_string.kp T.b_is_string (va_cons (ve_var (pv 0)) (va_cons ve_int.ve va_nil)))))))
        vss_nil)
      (vss_one (vs_ret (ve_and (ve_isi (Ts := "int") (by decide +kernel) (by decide +kernel) (by rfl) T.z_isinstance (by rfl) T.z_int (ve_var (pv 0)).vb).ve (ve_and (ve_not (ve_isi (Ts := "bool") (by decide +kernel) (by decide +kernel) (by rfl) T.z_isinstance (by rfl) T.z_bool (ve_var (pv 0)).vb).ve) (ve_one (ve_chain (cp_le) (cp_lt) ve_int.vb (ve_var (pv 0)).vb (ve_var (pv 1)).vb).ve))))))) ?_
  · rintro ds r Q ⟨d, k, rfl, _⟩
    rfl
  · rintro ds r Q ⟨d, k, rfl, hd, q⟩
    rw [show startV n_is_choice [d, .int (k : Int)] = [some (d), some (.int (k : Int))] from rfl]
    rcases hd with ⟨c, rfl, h1, h2⟩ | ⟨j, rfl, hj⟩
    · repeat infer_instance
      refine i_neF (fun z => sg_ne c z) ?_
      repeat infer_instance
      exact ⟨c, rfl, h1, h2, q⟩
    · repeat infer_instance
      rw [if_neg (by decide +kernel)]
      repeat infer_instance
      rw [if_pos (by decide +kernel)]
      repeat infer_instance
      rw [show (!isTy1 "bool" "int") = true by decide +kernel, if_pos rfl]
      repeat infer_instance
      rw [show decide ((j : Int) < (k : Int)) = true from decide_eq_true (by omega)]
      exact q
theorem vok_areC (T : Txt K mg) : FnOk P w K mg base CX0 3 T.f_are_choices T.fd_are_choices ["value", "most"] (spV K mF vfAreC) := by
  refine okV (M := mF) (O' := []) T.F_are_choices sc_are_choices ?_ (fun cdv A outer s H E hr => (vss_one (vs_ret (ve_and (ve_isi (Ts := "tuple") (by decide +kernel) (by decide +kernel) (by rfl) T.z_isinstance (by rfl) T.z_tuple (ve_var (pv 0)).vb).ve (ve_one (ve_all rfl (by rfl) T.z_all (vab_cons (vl_lc (own := [("choice", 2)]) (t := (.nm 2)) rfl sc_are_choices.nd (vi_seq (ve_var (pv 0))) (blkOk_by (N := n_are_choices) (sc := defScope s_are_choices) (by decide +kernel)) (fun _ _ _ _ _ => (pg_name (i := 2) sc_are_choices.nd rfl (Or.inl rfl))) (fun _ _ _ _ _ => vpts_nil) (fun _ _ _ _ _ => (ve_call (vok_isC T) (hr.mono (by decide)) (by rfl) T.g_is_choice T.F_is_choice.kp T.b_is_choice (va_cons (ve_var (pv 2)) (va_cons (ve_var (pv 1)) va_nil))))).vb vab_nil)).ve))))) ?_
  · rintro ds r Q ⟨cs, k, rfl, _⟩
    rfl
  · rintro ds r Q ⟨cs, k, rfl, hc, q⟩
    rw [show startV n_are_choices [.tuple cs, .int (k : Int)] = [some (.tuple cs), some (.int (k : Int)), none] from rfl]
    repeat infer_instance
    refine ⟨by rw [sizeLine_eq]; have := hc.1; omega, ?_⟩
    refine i_go (fun _ => .bool true) (fun d hd R q => ?_) ?_
    · repeat infer_instance
      exact ⟨d, k, rfl, hc.2 d hd, q⟩
    · repeat infer_instance
      exact i_allT q
theorem vok_isR (T : Txt K mg) : FnOk P w K mg base CX0 4 T.f_is_row T.fd_is_row ["value", "k"] (spV K mF vfIsR) := by
  refine okV (M := mF) (O' := []) T.F_is_row sc_is_row ?_ (fun cdv A outer s H E hr => (vss_cons (vs_if (vw_or (vt_not (vt_val (ve_isi (Ts := "tuple") (by decide +kernel) (by decide +kernel) (by rfl) T.z_isinstance (by rfl) T.z_tuple (ve_var (pv 0)).vb).ve)) (vw_or (vt_cmp (cp_ne hr.units) (ve_len (by rfl) T.z_len (vab_cons (ve_var (pv 0)).vb vab_nil)).vb ve_int.vb) (vw_or1 (vt_not (vt_val (ve_isi (Ts := "str") (by decide +kernel) (by decide +kernel) (by rfl) T.z_isinstance (by rfl) T.z_str (ve_ix (ve_var (pv 0)).vb ve_int.vb).vb).ve))))).vt
        (vss_one (vs_ret ve_bl.ve))
        vss_nil)
      (vss_one (vs_ret (ve_and (ve_call (vok_tupS T) (hr.mono (by decide)) (by rfl) T.g_is_tuple_of_strings T.F_is_tuple_of_strings.kp T.b_is_tuple_of_strings (va_cons (ve_ix (ve_var (pv 0)).vb ve_int.vb) va_nil)) (ve_one (ve_call (vok_areC T) (hr.mono (by decide)) (by rfl) T.g_are_choices T.F_are_choices.kp T.b_are_choices (va_cons (ve_ix (ve_var (pv 0)).vb ve_int.vb) (va_cons (ve_var (pv 1)) va_nil))))))))) ?_
  · rintro ds r Q ⟨cs, k, rfl, _⟩
    rfl
  · rintro ds r Q ⟨cs, k, rfl, hc, q⟩
    rw [show startV n_is_row [rowD cs, .int (k : Int)] = [some (rowD cs), some (.int (k : Int))] from rfl]
    unfold rowD
    repeat infer_instance
    refine ⟨[""], rfl, by simp, ?_⟩
    repeat infer_instance
    exact ⟨cs, k, rfl, hc, q⟩
def cliD : D := .tuple [.str "client", .str "m", .str "a"]
def vfAreP : VF := fun ds r Q => ∃ rows legs : List (List D), ds = [cliD, .tuple [.str ""], .tuple (rows.map rowD), .tuple (legs.map .tuple)] ∧ RowsK rows ∧ legs.length ≤ 1000 ∧ (∀ l ∈ legs, ChsK rows.length l) ∧ Q (.bool true) r
theorem vok_areP (T : Txt K mg) : FnOk P w K mg base CX0 5 T.f_are_parts T.fd_are_parts ["start", "arguments", "rows", "legs"] (spV K mF vfAreP) := by
  refine okV (M := mF) (O' := []) T.F_are_parts sc_are_parts ?_ (fun cdv A outer s H E hr => (vss_cons (vs_if (vw_or (vt_not (vt_val (ve_call (vok_tupS T) (hr.mono (by decide)) (by rfl) T.g_is_tuple_of_strings T.F_is_tuple_of_strings.kp T.b_is_tuple_of_strings (va_cons (ve_var (pv 0)) va_nil)))) (vw_or (vt_cmp (cp_ne hr.units) (ve_len (by rfl) T.z_len (vab_cons (ve_var (pv 0)).vb vab_nil)).vb ve_int.vb) (vw_or1 (vt_not (vt_val (ve_call (vok_tupS T) (hr.mono (by decide)) (by rfl) T.g_is_tuple_of_strings T.F_is_tuple_of_strings.kp T.b_is_tuple_of_strings (va_cons (ve_var (pv 1)) va_nil))))))).vt
        (vss_one (vs_ret ve_bl.ve))
        vss_nil)
      (vss_cons (vs_if (vw_or (vt_not (vt_val (ve_isi (Ts := "tuple") (by decide +kernel) (by decide +kernel) (by rfl) T.z_isinstance (by rfl) T.z_tuple (ve_var (pv 2)).vb).ve)) (vw_or1 (vt_not (vt_val (ve_all rfl (by rfl) T.z_all (vab_cons (vl_lc (own := [("k", 5), ("row", 6)]) (t := (.tp [5, 6])) rfl sc_are_parts.nd (vi_enum (by rfl) T.z_enumerate (ve_var (pv 2))) (blkOk_by (N := n_are_parts) (sc := defScope s_are_parts) (by decide +kernel)) (fun _ _ _ _ _ => (pg_tup (by rfl) (pgs_cons (pg_name (i := 5) sc_are_parts.nd rfl (Or.inl rfl)) (pgs_cons (pg_name (i := 6) sc_are_parts.nd rfl (Or.inl rfl)) pgs_nil)))) (fun _ _ _ _ _ => vpts_nil) (fun _ _ _ _ _ => (ve_call (vok_isR T) (hr.mono (by decide)) (by rfl) T.g_is_row T.F_is_row.kp T.b_is_row (va_cons (ve_var (pv 6)) (va_cons (ve_var (pv 5)) va_nil))))).vb vab_nil)).ve)))).vt
        (vss_one (vs_ret ve_bl.ve))
        vss_nil)
      (vss_one (vs_ret (ve_and (ve_isi (Ts := "tuple") (by decide +kernel) (by decide +kernel) (by rfl) T.z_isinstance (by rfl) T.z_tuple (ve_var (pv 3)).vb).ve (ve_one (ve_all rfl (by rfl) T.z_all (vab_cons (vl_lc (own := [("leg", 4)]) (t := (.nm 4)) rfl sc_are_parts.nd (vi_seq (ve_var (pv 3))) (blkOk_by (N := n_are_parts) (sc := defScope s_are_parts) (by decide +kernel)) (fun _ _ _ _ _ => (pg_name (i := 4) sc_are_parts.nd rfl (Or.inl rfl))) (fun _ _ _ _ _ => vpts_nil) (fun _ _ _ _ _ => (ve_call (vok_areC T) (hr.mono (by decide)) (by rfl) T.g_are_choices T.F_are_choices.kp T.b_are_choices (va_cons (ve_var (pv 4)) (va_cons (ve_len (by rfl) T.z_len (vab_cons (ve_var (pv 2)).vb vab_nil)).ve va_nil))))).vb vab_nil)).ve))))))) ?_
  · rintro ds r Q ⟨rows, legs, rfl, _⟩
    rfl
  · rintro ds r Q ⟨rows, legs, rfl, hr, hl, hk, q⟩
    rw [show startV n_are_parts [cliD, .tuple [.str ""], .tuple (rows.map rowD), .tuple (legs.map .tuple)] = [some (cliD), some (.tuple [.str ""]), some (.tuple (rows.map rowD)), some (.tuple (legs.map .tuple)), none, none, none] from rfl]
    unfold cliD
    repeat infer_instance
    refine ⟨["client", "m", "a"], rfl, by simp, ?_⟩
    repeat infer_instance
    refine ⟨[""], rfl, by simp, ?_⟩
    repeat infer_instance
    refine ⟨_, rfl, by rw [enumD_len, List.length_map, sizeLine_eq]; have := hr.1; omega, ?_⟩
    refine i_go (fun _ => .bool true) (fun d hd R q => ?_) ?_
    · obtain ⟨j, hj⟩ := List.getElem?_of_mem hd
      obtain ⟨e, he, rfl⟩ := enumD_at hj
      rw [List.getElem?_map] at he
      obtain ⟨cs, hc, rfl⟩ := Option.map_eq_some_iff.mp he
      repeat infer_instance
      exact ⟨cs, j, rfl, hr.2 j cs hc, q⟩
    · repeat infer_instance
      refine i_allT ?_
      repeat infer_instance
      refine i_go (fun _ => .bool true) (fun d hd R q => ?_) ?_
      · obtain ⟨l, hl2, rfl⟩ := List.mem_map.mp hd
        repeat infer_instance
        exact ⟨l, rows.length, by rw [List.length_map], hk l hl2, q⟩
      · repeat infer_instance
        exact i_allT q
end
end Sn
namespace Sn
open PySem PySem.Spec PyProof.Rows L2 TL
theorem ll_K43b_0 : ("" : Str).length = 0 := by decide +kernel
theorem ll_K43b_1 : ("not the parts of a route" : Str).length = 24 := by decide +kernel
local macro_rules | `(tactic| infer_instance) => `(tactic| simp only [ty_tt, ty_ts, ty_ti, ty_tl, ty_ss, ty_st])
local macro_rules | `(tactic| infer_instance) => `(tactic| assumption)
local macro_rules | `(tactic| infer_instance) => `(tactic| dsimp only [List.set, wipeE])
local macro_rules | `(tactic| infer_instance) => `(tactic| ((with_reducible refine i_pg ?_ ?_); · assumption))
local macro_rules | `(tactic| infer_instance) => `(tactic| ((with_reducible refine i_askW ?_ ?_); · assumption))
local macro_rules | `(tactic| infer_instance) => `(tactic| ((with_reducible refine i_askN ?_ ?_); · assumption))
local macro_rules | `(tactic| infer_instance) => `(tactic| ((with_reducible refine i_okT ?_ ?_); · assumption))
local macro_rules | `(tactic| infer_instance) => `(tactic| ((with_reducible refine i_cStrF ?_ ?_); · decide +kernel))
local macro_rules | `(tactic| infer_instance) => `(tactic| ((with_reducible refine i_cStrT ?_ ?_); · rfl))
local macro_rules | `(tactic| infer_instance) => `(tactic| ((with_reducible refine i_cGF ?_ ?_); · rfl))
local macro_rules | `(tactic| infer_instance) => `(tactic| ((with_reducible refine i_cGT ?_ ?_); · rfl))
local macro_rules | `(tactic| infer_instance) => `(tactic| ((with_reducible refine i_cIntF ?_ ?_); · rfl))
local macro_rules | `(tactic| infer_instance) => `(tactic| ((with_reducible refine i_cIntT ?_ ?_); · rfl))
local macro_rules | `(tactic| infer_instance) => `(tactic| ((with_reducible apply i_appPop); (focus rfl); (focus rfl)))
local macro_rules | `(tactic| infer_instance) => `(tactic| ((with_reducible apply i_insert); · rfl))
local macro_rules | `(tactic| infer_instance) => `(tactic| ((with_reducible refine i_look2F ?_ ?_); · decide +kernel))
local macro_rules | `(tactic| infer_instance) => `(tactic| ((with_reducible refine i_look2T ?_ ?_); · rfl))
local macro_rules | `(tactic| infer_instance) => `(tactic| ((with_reducible refine i_lookF ?_ ?_); · decide +kernel))
local macro_rules | `(tactic| infer_instance) => `(tactic| ((with_reducible refine i_lookT ?_ ?_); · rfl))
local macro_rules | `(tactic| infer_instance) => `(tactic| ((with_reducible refine i_exdict ?_ ?_); · rfl))
local macro_rules | `(tactic| infer_instance) => `(tactic| ((with_reducible refine i_dget2 ?_ ?_); · rfl))
local macro_rules | `(tactic| infer_instance) => `(tactic| ((with_reducible refine i_dget ?_ ?_); · rfl))
local macro_rules | `(tactic| infer_instance) => `(tactic| ((with_reducible refine i_dispQ ?_ ?_); · decide +kernel))
local macro_rules | `(tactic| infer_instance) => `(tactic| ((with_reducible refine i_le ?_ ?_); · (simp only [List.length_append, List.length_map, List.length_replicate, List.length_cons, List.length_nil, sizeLine_eq]; omega)))
local macro_rules | `(tactic| infer_instance) => `(tactic| ((with_reducible refine i_lt ?_ ?_); · (simp only [List.length_append, List.length_map, List.length_replicate, List.length_cons, List.length_nil, sizeLine_eq]; omega)))
local macro_rules | `(tactic| infer_instance) => `(tactic| ((with_reducible refine i_addL ?_ ?_); · (simp only [List.length_append, List.length_map, List.length_replicate, List.length_cons, List.length_nil, sizeLine_eq]; omega)))
local macro_rules | `(tactic| infer_instance) => `(tactic| ((with_reducible refine i_addS ?_ ?_); · (simp only [len_app, sizeLine_eq, ll_emp, ll_K43b_0, ll_K43b_1]; omega)))
local macro_rules | `(tactic| infer_instance) => `(tactic| ((with_reducible refine i_fmtS ?_ ?_); · (simp only [len_app, sizeLine_eq, ll_emp, ll_K43b_0, ll_K43b_1]; omega)))
local macro_rules | `(tactic| infer_instance) => `(tactic| ((with_reducible refine i_le ?_ ?_); · (simp only [len_app, sizeLine_eq, ll_emp, ll_K43b_0, ll_K43b_1]; omega)))
local macro_rules | `(tactic| infer_instance) => `(tactic| ((with_reducible apply i_ty); · rfl))
local macro_rules | `(tactic| infer_instance) => `(tactic| ((with_reducible refine i_ninTf ?_ ?_ ?_); (focus rfl); (focus (decide +kernel))))
local macro_rules | `(tactic| infer_instance) => `(tactic| ((with_reducible refine i_ninTt ?_ ?_ ?_); (focus rfl); (focus (decide +kernel))))
local macro_rules | `(tactic| infer_instance) => `(tactic| ((with_reducible refine i_inLf ?_ ?_ ?_); (focus rfl); (focus (decide +kernel))))
local macro_rules | `(tactic| infer_instance) => `(tactic| ((with_reducible refine i_inLt ?_ ?_ ?_); (focus rfl); (focus (decide +kernel))))
local macro_rules | `(tactic| infer_instance) => `(tactic| ((with_reducible refine i_inTf ?_ ?_ ?_); (focus rfl); (focus (decide +kernel))))
local macro_rules | `(tactic| infer_instance) => `(tactic| ((with_reducible refine i_inTt ?_ ?_ ?_); (focus rfl); (focus (decide +kernel))))
local macro_rules | `(tactic| infer_instance) => `(tactic| ((with_reducible apply i_extend); · rfl))
local macro_rules | `(tactic| infer_instance) => `(tactic| ((with_reducible apply i_append); · rfl))
local macro_rules | `(tactic| infer_instance) => `(tactic| ((with_reducible refine i_notNf ?_ ?_); · rfl))
local macro_rules | `(tactic| infer_instance) => `(tactic| ((with_reducible refine i_notNt ?_ ?_); · rfl))
local macro_rules | `(tactic| infer_instance) => `(tactic| ((with_reducible refine i_isNf ?_ ?_); · rfl))
local macro_rules | `(tactic| infer_instance) => `(tactic| ((with_reducible refine i_isNt ?_ ?_); · rfl))
local macro_rules | `(tactic| infer_instance) => `(tactic| ((with_reducible apply i_ixL); · rfl))
local macro_rules | `(tactic| infer_instance) => `(tactic| ((with_reducible apply i_ixT); · rfl))
local macro_rules | `(tactic| infer_instance) => `(tactic| ((with_reducible refine i_neF ?_ ?_); · decide +kernel))
local macro_rules | `(tactic| infer_instance) => `(tactic| ((with_reducible refine i_neT ?_ ?_); · rfl))
local macro_rules | `(tactic| infer_instance) => `(tactic| ((with_reducible refine i_neF ?_ ?_); · assumption))
local macro_rules | `(tactic| infer_instance) => `(tactic| ((with_reducible refine i_eqF ?_ ?_); · assumption))
local macro_rules | `(tactic| infer_instance) => `(tactic| ((with_reducible refine i_eqF ?_ ?_); · decide +kernel))
local macro_rules | `(tactic| infer_instance) => `(tactic| ((with_reducible refine i_eqT ?_ ?_); · rfl))
local macro_rules | `(tactic| infer_instance) => `(tactic| ((with_reducible refine i_dNF ?_ ?_); (focus first | decide | omega | rfl | (simp only [List.length_cons, List.length_nil]; omega))))
local macro_rules | `(tactic| infer_instance) => `(tactic| ((with_reducible refine i_dNT ?_ ?_); (focus first | decide | omega | rfl | (simp only [List.length_cons, List.length_nil]; omega))))
local macro_rules | `(tactic| infer_instance) => `(tactic| ((with_reducible refine i_dF ?_ ?_); (focus first | decide | omega | rfl | (simp only [List.length_cons, List.length_nil]; omega))))
local macro_rules | `(tactic| infer_instance) => `(tactic| ((with_reducible refine i_dT ?_ ?_); (focus first | decide | omega | rfl | (simp only [List.length_cons, List.length_nil]; omega))))
local macro_rules | `(tactic| infer_instance) => `(tactic| ((with_reducible apply i_var); · rfl))
local macro_rules | `(tactic| infer_instance) => `(tactic| ((with_reducible refine i_fs ?_ ?_); (focus first | decide | (simp only [List.length_cons, List.length_nil]; omega))))
local macro_rules | `(tactic| infer_instance) => `(tactic| ((with_reducible apply i_exLk); · rfl))
local macro_rules | `(tactic| infer_instance) => `(tactic| ((with_reducible apply i_exE); · rfl))
local macro_rules | `(tactic| infer_instance) => `(tactic| ((with_reducible refine i_dinK ?_ ?_); · rfl))
local macro_rules | `(tactic| infer_instance) => `(tactic| with_reducible refine i_exL1 ?_)
local macro_rules | `(tactic| infer_instance) => `(tactic| ((with_reducible apply i_fld); · rfl))
local macro_rules | `(tactic| infer_instance) => `(tactic| with_reducible refine i_exI ?_)
local macro_rules | `(tactic| infer_instance) => `(tactic| ((with_reducible apply i_exD); · rfl))
local macro_rules | `(tactic| infer_instance) => `(tactic| ((with_reducible apply i_exK); · rfl))
local macro_rules | `(tactic| infer_instance) => `(tactic| ((with_reducible apply i_exF); · rfl))
local macro_rules | `(tactic| infer_instance) => `(tactic| (with_reducible refine St.go ?_))
def cntN (cs : List Nat) : D → Nat
  | .int i => cs.getD i.toNat 0
  | _ => 1
def cntI (cs : List Nat) (d : D) : Int := (cntN cs d : Int)
def sumI (cs : List Nat) (ds : List D) : Int := (ds.map (cntI cs)).sum
theorem mapR {α β : Type} (f : α → β) (z : α) : ∀ ds : List α, (List.range ds.length).map (fun i => f (ds.getD i z)) = ds.map f := by
  intro ds
  apply List.ext_getElem?
  intro i
  rw [List.getElem?_map, List.getElem?_map]
  by_cases h : i < ds.length
  · rw [List.getElem?_range h, List.getElem?_eq_getElem h, Option.map_some, Option.map_some, List.getD_eq_getElem?_getD, List.getElem?_eq_getElem h]; rfl
  · rw [List.getElem?_eq_none (by rw [List.length_range]; omega), List.getElem?_eq_none (by omega)]; rfl
theorem ChsK.mono {k m : Nat} {ds : List D} (h : ChsK k ds) (l : k ≤ m) : ChsK m ds := ⟨h.1, fun d hd => (h.2 d hd).elim .inl fun ⟨j, e, hj⟩ => .inr ⟨j, e, by omega⟩⟩
section
variable {P : Program} {w : World} {K : PySem.W.Frag} {mg : Str → Option Value} {base : Heap}
def spCntD (K : PySem.W.Frag) (C : Addr) : Sp := fun vs H Q _ => ∃ (A : Amb) (W : Addr → Prop) (a dx q : Addr) (fs : List (Str × V)) (cs : List Nat) (v : V) (ds : List D), vs = [.ref a, v] ∧ H a = some (.ins C dx fs) ∧ fs.lookup ("counts" : Str) = some (.ref q) ∧ H q = some (.lst (cs.map fun n : Nat => V.int (n : Int))) ∧
  Dw K A W H v (.tuple ds) ∧ ChsK cs.length ds ∧ ∀ H', Same H H' → Q (.int (sumI cs ds)) H'
theorem ok_cntD (T : Txt K mg) : FnOk P w K mg base CX0 1 T.f_Route_counted T.fd_Route_counted ["self", "choices"] (spCntD K T.C_Route) := by
  refine T.F_Route_counted.ok sc_Route_counted (fun vs H Q E h => ?_) (fun cdv A outer s H vs Q E hr h => ?_)
  · obtain ⟨_, _, a, dx, q, fs, cs, v, ds, rfl, _⟩ := h
    rfl
  · obtain ⟨A1, W, a, dx, q, fs, cs, v, ds, rfl, ha, hf, hq, hd, hm, k⟩ := h
    refine ⟨_, (pss_one (ps_ret (pe_callB (cr_sum rfl) (by rfl) T.z_sum (by decide +kernel) (pa_cons (pe_lc (own := [("choice", 2)]) (g := gName 2) (by rfl) sc_Route_counted.nd (pi_tup (pv 1)) (blkOk_by (own := [("choice", 2)]) (N := n_Route_counted) (sc := defScope s_Route_counted) (by decide +kernel)) (fun _ _ _ _ _ => (pg_name (i := 2) sc_Route_counted.nd rfl (Or.inl rfl))) (fun _ _ _ _ _ => pts_nil) (fun _ _ _ _ _ => (pe_ifExp (pt_val (pe_callB (call_isiN (K := K)) (by rfl) T.z_isinstance (by decide +kernel) (pa_cons (pv 2) (pa_cons (pe_bltn (v := .ty "str") (by rfl) T.z_str (by decide +kernel) rfl) pa_nil)))) pe_int (pe_ix (ix_listK (K := K)) (pe_fldK (K := K) (pv 0)) (pv 2) (fun _ _ => rfl))))) pa_nil)))), ?_⟩
    cases hd with
    | tup hb hall =>
    rename_i b xs
    refine ⟨_, rfl, b, rfl, ⟨_, hb⟩, fun D hD => ?_⟩
    refine lc_out (walk_tup (K := K) (a := b) (xs := xs)) (fun i => .int (cntI cs (ds.getD i .none))) (by rw [hall.len]; exact hm.1) hD (fun H1 s1 => sqT_same s1 hb) ?_ ?_
    · rintro i x H1 H2 Qg hi s1 ⟨rfl, hx⟩ kk
      obtain ⟨e, he, hde⟩ := hall.getV hx
      have hc := hm.2 e (List.mem_of_getElem? he)
      refine kk _ _ (Same.refl _) rfl fun R hR => ?_
      have hR := hR H2 (Same.refl _)
      rw [getD_of he] at hR
      rcases hc with ⟨c, rfl, _⟩ | ⟨j, rfl, hj⟩
      · cases hde
        refine ⟨_, rfl, _, .ty "str", _, .type "str", _, rfl, .ty "str", (Dh.str (H := H2) _).ty, kit_s, _, rfl, ?_⟩
        exact iteT hR
      · cases hde
        refine ⟨_, rfl, _, .ty "str", _, .type "str", _, rfl, .ty "str", (Dh.int (H := H2) _).ty, kit_s, _, rfl, ?_⟩
        refine iteF ?_
        have e1 : (cs.map fun n : Nat => V.int (n : Int))[j]? = some (.int ((cs.getD j 0 : Nat) : Int)) := by
          rw [List.getElem?_map, List.getD_eq_getElem?_getD, List.getElem?_eq_getElem hj]; rfl
        exact ⟨_, rfl, a, _, dx, fs, _, rfl, s1 _ _ ha, T.cl_Route, T.at_Route_counts, hf, _, rfl, q, _, _, _, rfl, rfl, .inl (.inl (s1 _ _ hq)), atI_nat e1, hR⟩
    · intro H1 s1 hl1
      rw [show (List.range xs.length).map (fun i => V.int (cntI cs (ds.getD i .none))) = ((List.range xs.length).map fun i => cntI cs (ds.getD i .none)).map V.int by rw [List.map_map]; rfl] at hl1
      refine ⟨D, _, rfl, .inl (.inl hl1), ?_⟩
      have q := k H1 s1
      show Q (.int _) H1
      rw [hall.len, mapR]
      exact q
end
def sumN (cs : List Nat) (ds : List D) : Nat := (ds.map (cntN cs)).sum
theorem sumI_eq (cs : List Nat) : ∀ ds : List D, sumI cs ds = (sumN cs ds : Int)
  | [] => rfl
  | d :: ds => by
    have h := sumI_eq cs ds
    unfold sumI sumN at h ⊢
    rw [List.map_cons, List.map_cons, List.sum_cons, List.sum_cons, h, Int.natCast_add]
    rfl
/-- the counts of the rows, one after the other -/
def cntsL (rows : List (List D)) : List Nat := rows.foldl (fun cs r => cs ++ [sumN cs r]) []
theorem cntsL_app (l : List (List D)) (r : List D) : cntsL (l ++ [r]) = cntsL l ++ [sumN (cntsL l) r] := by
  unfold cntsL
  rw [List.foldl_append]; rfl
theorem cntsL_len (l : List (List D)) : (cntsL l).length = l.length := by
  unfold cntsL
  have key : ∀ (l : List (List D)) (cs : List Nat), (l.foldl (fun cs r => cs ++ [sumN cs r]) cs).length = cs.length + l.length := by
    intro l
    induction l with
    | nil => intro cs; rfl
    | cons d r ih =>
      intro cs
      rw [List.foldl_cons, ih, List.length_append, List.length_cons, List.length_nil, List.length_cons]
      omega
  rw [key]; simp
def legsN (rows legs : List (List D)) : Nat := (legs.map (sumN (cntsL rows))).sum
theorem legs_eq (cs : List Nat) : ∀ legs : List (List D), (legs.map (sumI cs)).sum = (((legs.map (sumN cs)).sum : Nat) : Int)
  | [] => rfl
  | d :: ds => by
    have h := legs_eq cs ds
    rw [List.map_cons, List.map_cons, List.sum_cons, List.sum_cons, h, Int.natCast_add, sumI_eq]
def r4 (rows legs : List (List D)) : List (Str × D) := [("start", cliD), ("arguments", .tuple [.str ""]), ("rows", .tuple (rows.map rowD)), ("legs", .tuple (legs.map .tuple))]
def r6 (rows legs : List (List D)) : List (Str × D) := [("start", cliD), ("arguments", .tuple [.str ""]), ("rows", .tuple (rows.map rowD)), ("legs", .tuple (legs.map .tuple)), ("counts", .list ((cntsL rows).map fun n : Nat => .int (n : Int))), ("count", .int (legsN rows legs : Int))]
def GoodR (rows legs : List (List D)) : Prop := RowsK rows ∧ legs.length ≤ 1000 ∧ ∀ l ∈ legs, ChsK rows.length l
def vCntTail (C : Addr) : VTS := fun N ρ r => ∃ rows legs : List (List D), ρ = [some (dIns C (r4 rows legs)), some cliD, some (.tuple [.str ""]), some (.tuple (rows.map rowD)), some (.tuple (legs.map .tuple)), none, none] ∧ GoodR rows legs ∧
  N.nx [some (dIns C (r6 rows legs)), some cliD, some (.tuple [.str ""]), some (.tuple (rows.map rowD)), some (.tuple (legs.map .tuple)), none, none] r
theorem takes2K {α : Type} {l : List α} {i : Nat} {x : α} (h : l[i]? = some x) : l.take (i + 1) = l.take i ++ [x] := by
  rw [List.take_add_one, h]; rfl
theorem dwA_ints {K : PySem.W.Frag} {A : Amb} {W : Addr → Prop} {H : Hp} : ∀ l : List Nat, DwA K A W H (l.map fun n : Nat => V.int (n : Int)) (l.map fun n : Nat => PyData.int (n : Int))
  | [] => .nil
  | _ :: l => .cons (.int _) (dwA_ints l)
/-- the heap but for what stands at x -/
def SameY (x : Addr) (H H' : Hp) : Prop := ∀ b o, b ≠ x → H b = some o → H' b = some o
section
variable {K : PySem.W.Frag} {A : Amb} {W : Addr → Prop} {H H' : Hp} {x C dx : Addr} {fs : List (Str × V)}
theorem sqT_sameY {a : Addr} {xs : List V} (hx : H x = some (.ins C dx fs)) (s : SameY x H H') (h : SqT K H a xs) : SqT K H' a xs := by
  rcases h with (h | ⟨o, h⟩) | h
  · exact .inl (.inl (s _ _ (fun e => by rw [e, hx] at h; cases h) h))
  · exact .inl (.inr ⟨o, s _ _ (fun e => by rw [e, hx] at h; cases h) h⟩)
  · exact .inr h
theorem dw_sameY (hx : H x = some (.ins C dx fs)) (nw : ¬ W x) (s : SameY x H H') {v : V} {d : D} (h : Dw K A W H v d) : Dw K A W H' v d :=
  h.mov (fun _ e => e) (fun a o w e => s a o (fun z => nw (by rw [← z]; exact w)) e) fun a xs e => sqT_sameY hx s e
end
def vfRouteI (C : Addr) : VFX := fun ds r Q => ∃ rows legs : List (List D), ds = [dIns C [], cliD, .tuple [.str ""], .tuple (rows.map rowD), .tuple (legs.map .tuple)] ∧ GoodR rows legs ∧ Q .none [dIns C (r6 rows legs)] r
section
variable {P : Program} {w : World} {K : PySem.W.Frag} {mg : Str → Option Value} {base : Heap}
theorem vok_initR (T : Txt K mg) : FnOk P w K mg base CX0 6 T.f_Route_init T.fd_Route_init ["self", "start", "arguments", "rows", "legs"] (spX K mF [true, false, false, false, false] (vfRouteI T.C_Route)) := by
  refine okX (M := mF) (O := [0, 1000]) (O' := [0, 1000]) (bs := [true, false, false, false, false]) T.F_Route_init sc_Route_init ?_ (by decide) rfl (fun cdv A outer s H E hr => (vss_cons (vs_if (vt_not (vt_val (ve_call (vok_areP T) (hr.mono (by decide)) (by rfl) T.g_are_parts T.F_are_parts.kp T.b_are_parts (va_cons (ve_var (pv 1)) (va_cons (ve_var (pv 2)) (va_cons (ve_var (pv 3)) (va_cons (ve_var (pv 4)) va_nil)))))))
        vss_never
        vss_nil)
      (vss_cons (vs_setF (i := 0) T.cl_Route T.at_Route_start (pv 0) (ve_var (pv 1)))
      (vss_cons (vs_setF (i := 0) T.cl_Route T.at_Route_arguments (pv 0) (ve_var (pv 2)))
      (vss_cons (vs_setF (i := 0) T.cl_Route T.at_Route_rows (pv 0) (ve_var (pv 3)))
      (vss_cons (vs_setF (i := 0) T.cl_Route T.at_Route_legs (pv 0) (ve_var (pv 4)))
      (show VSs _ _ _ [0, 1000] [0, 1000] _ (vCntTail T.C_Route) from ?_))))))) ?_
  · rintro ds r Q ⟨rows, legs, rfl, _⟩
    rfl
  · refine PSs.imp (pss_cons (ps_fld (pv 0) (pe_lst pa_nil) rfl)
      (pss_cons (ps_for PassesOwn.never rfl (pi_tup (pv 3)) (pg_name (i := 5) sc_Route_init.nd rfl (Or.inl rfl))
        (pss_one (ps_expr (pe_bm PySem.F.plainAttrs_list PySem.F.slot_list_append PySem.F.type_list_append mt_append (pe_fldK (K := K) (pv 0)) (pa_cons (pe_meth (pv 0) T.cl_Route T.m_Route_counted (ok_cntD T) (hr.mono (by decide)) T.b_Route_counted .nil pass0 (pa_cons (pe_ix (ix_tupK (K := K)) (pv 5) pe_int (fun _ _ => rfl)) pa_nil)) pa_nil)))))
      (pss_one (ps_fld (pv 0) (pe_callB (cr_sum rfl) (by rfl) T.z_sum (by decide +kernel) (pa_cons (pe_lc (own := [("leg", 6)]) (g := gName 6) (by rfl) sc_Route_init.nd (pi_tup (pv 4)) (blkOk_by (own := [("leg", 6)]) (N := n_Route_init) (sc := defScope s_Route_init) (by decide +kernel)) (fun _ _ _ _ _ => (pg_name (i := 6) sc_Route_init.nd rfl (Or.inl rfl))) (fun _ _ _ _ _ => pts_nil) (fun _ _ _ _ _ => (pe_meth (pv 0) T.cl_Route T.m_Route_counted (ok_cntD T) (hr.mono (by decide)) T.b_Route_counted .nil pass0 (pa_cons (pv 6) pa_nil)))) pa_nil)) rfl)))) fun D σ H q => ?_
    obtain ⟨A1, W0, H0, W, ρ, r, N, Ev, ⟨rows, legs, rfl, g, qn⟩, kn, kr, kb, kc⟩ := q
    obtain ⟨x, e0, ow, nw, nu, h0⟩ := Ev.own 0 _ rfl (by decide)
    obtain ⟨v1, e1, d1⟩ := Ev.var 1 _ rfl (by decide)
    obtain ⟨v2, e2, d2⟩ := Ev.var 2 _ rfl (by decide)
    obtain ⟨v3, e3, d3⟩ := Ev.var 3 _ rfl (by decide)
    obtain ⟨v4, e4, d4⟩ := Ev.var 4 _ rfl (by decide)
    obtain ⟨dx, xs, hx, hw, hdx, hxs⟩ := ow.insD rfl
    have hl := Ev.len
    match σ, hl, e0, e1, e2, e3, e4, Ev with
    | [s0, s1, s2, s3, s4, s5, s6], _, e0, e1, e2, e3, e4, Ev =>
    cases e0
    cases e1
    cases e2
    cases e3
    cases e4
    unfold r4 at hxs
    cases hxs with
    | @cons _ y1 _ _ _ z1 hxs =>
    cases hxs with
    | @cons _ y2 _ _ _ z2 hxs =>
    cases hxs with
    | @cons _ y3 _ _ _ z3 hxs =>
    cases hxs with
    | @cons _ y4 _ _ _ z4 hxs =>
    cases hxs
    obtain ⟨gr, gl, gk⟩ := g
    have f5 : ∀ v : V, putF "counts" v ([("start", y1), ("arguments", y2), ("rows", y3), ("legs", y4)] : List (Str × V)) = ([("start", y1), ("arguments", y2), ("rows", y3), ("legs", y4), ("counts", v)] : List (Str × V)) := fun _ => rfl
    have f6 : ∀ v u : V, putF "count" u ([("start", y1), ("arguments", y2), ("rows", y3), ("legs", y4), ("counts", v)] : List (Str × V)) = ([("start", y1), ("arguments", y2), ("rows", y3), ("legs", y4), ("counts", v), ("count", u)] : List (Str × V)) := fun _ _ => rfl
    refine ⟨(by show 0 ≤ sizeLine; decide), fun q hq => ?_⟩
    have nq : x ≠ q := fun e => by rw [← e, hx] at hq; cases hq
    refine ⟨_, rfl, x, _, dx, _, rfl, by rw [upd_ne nq]; exact hx, T.cl_Route, T.at_Route_counts, by show 4 < 1000; decide, ?_⟩
    rw [f5]
    have sx : SameY x H (upd (upd H q (.lst [])) x (.ins T.C_Route dx [("start", y1), ("arguments", y2), ("rows", y3), ("legs", y4), ("counts", .ref q)])) := fun b o n e => by
      rw [upd_ne n, upd_ne (ne_of_none e hq)]
      exact e
    have hx6 : (upd (upd H q (.lst [])) x (.ins T.C_Route dx [("start", y1), ("arguments", y2), ("rows", y3), ("legs", y4), ("counts", .ref q)])) x = some (.ins T.C_Route dx [("start", y1), ("arguments", y2), ("rows", y3), ("legs", y4), ("counts", .ref q)]) := upd_same
    have hq6 : (upd (upd H q (.lst [])) x (.ins T.C_Route dx [("start", y1), ("arguments", y2), ("rows", y3), ("legs", y4), ("counts", .ref q)])) q = some (.lst []) := by rw [upd_ne nq.symm]; exact upd_same
    generalize upd (upd H q (.lst [])) x (.ins T.C_Route dx [("start", y1), ("arguments", y2), ("rows", y3), ("legs", y4), ("counts", .ref q)]) = H6 at sx hx6 hq6
    cases d3 with
    | @tup a3 xs3 _ sq3 hall3 =>
    cases d4 with
    | @tup a4 xs4 _ sq4 hall4 =>
    refine ⟨_, rfl, a3, rfl, ⟨_, sqT_sameY hx sx sq3⟩, ?_⟩
    refine for_tup (K := K) (a := a3) (xs := xs3) (fun i σ H7 => ∃ v5, σ = [some (.ref x), some v1, some v2, some (.ref a3), some (.ref a4), v5, s6] ∧ SameY x H H7 ∧ H7 x = some (.ins T.C_Route dx [("start", y1), ("arguments", y2), ("rows", y3), ("legs", y4), ("counts", .ref q)]) ∧ H7 q = some (.lst ((cntsL (rows.take i)).map fun n : Nat => V.int (n : Int))))
      ⟨_, rfl, sx, hx6, hq6⟩ (fun i σ H7 _ ⟨_, _, s7, _⟩ => sqT_sameY hx s7 sq3) ?_ ?_
    · rintro i y σ H7 hy ⟨v5, rfl, s7, hx7, hq7⟩
      obtain ⟨e, he, hde⟩ := hall3.getV hy
      have hde7 := dw_sameY hx nw s7 hde
      rw [List.getElem?_map] at he
      obtain ⟨cs, hcs, rfl⟩ := Option.map_eq_some_iff.mp he
      have hi : i < rows.length := (List.getElem?_eq_some_iff.mp hcs).1
      have hch := gr.2 i cs hcs
      have hl2 := gr.1
      unfold rowD at hde7
      cases hde7 with
      | @tup ra rxs _ hra hrall =>
      cases hrall with
      | @cons w0 _ _ _ q0 hrall =>
      cases hrall with
      | @cons w1 _ _ _ q1 hrall =>
      cases hrall with
      | @cons w2 _ _ _ q2 hrall =>
      cases hrall
      have lcs : (cntsL (rows.take i)).length = i := by rw [cntsL_len, List.length_take]; omega
      refine ⟨_, rfl, x, _, dx, _, _, rfl, hx7, T.cl_Route, T.at_Route_counts, rfl, .inl ⟨rfl, _, .inl (.inl hq7)⟩, ?_⟩
      refine ⟨_, rfl, x, dx, _, rfl, hx7, rfl, _, rfl, ra, _, _, _, rfl, rfl, hra, atI_nat (j := 2) rfl, A1, W, x, dx, q, _, cntsL (rows.take i), w2, cs, rfl, hx7, rfl, hq7, q2, by rw [lcs]; exact hch, fun H8 s8 => ?_⟩
      refine ⟨q, _, _, rfl, rfl, s8 _ _ hq7, (by rw [List.length_map, lcs, sizeLine_eq]; omega), ?_⟩
      refine ⟨_, rfl, fun b o n e => ?_, ?_, ?_⟩
      · rw [upd_ne (ne_of_none e hq)]
        exact s8 _ _ (s7 _ _ n e)
      · rw [upd_ne nq]
        exact s8 _ _ hx7
      · rw [upd_same, takes2K hcs, cntsL_app, List.map_append, sumI_eq]; rfl
    · rintro σ H7 ⟨v5, rfl, s7, hx7, hq7⟩
      have l3 : xs3.length = rows.length := by rw [hall3.len, List.length_map]
      rw [l3, List.take_length] at hq7
      have lcs : (cntsL rows).length = rows.length := cntsL_len rows
      have l4 : xs4.length = legs.length := by rw [hall4.len, List.length_map]
      refine ⟨_, rfl, a4, rfl, ⟨_, sqT_sameY hx s7 sq4⟩, fun D hD => ?_⟩
      refine lc_out (walk_tup (K := K) (a := a4) (xs := xs4)) (fun i => .int (sumI (cntsL rows) (legs.getD i []))) (by rw [l4]; exact gl) hD (fun H1 s1 => sqT_same s1 (sqT_sameY hx s7 sq4)) ?_ ?_
      · rintro i y H8 H9 Qg hi s8 ⟨rfl, hy⟩ kk
        obtain ⟨e, he, hde⟩ := hall4.getV hy
        have hde8 := dw_sameY hx nw s7 hde
        rw [List.getElem?_map] at he
        obtain ⟨leg, hleg, rfl⟩ := Option.map_eq_some_iff.mp he
        have hg := gk leg (List.mem_of_getElem? hleg)
        refine kk _ _ (Same.refl _) rfl fun R hR => ?_
        rw [getD_of hleg] at hR
        exact ⟨_, rfl, x, dx, _, rfl, s8 _ _ hx7, rfl, _, rfl, A1, W, x, dx, q, _, cntsL rows, y, leg, rfl, s8 _ _ hx7, rfl, s8 _ _ hq7, (hde8.mov (fun _ e => e) (fun _ _ _ e => s8 _ _ e) fun _ _ e => sqT_same s8 e), by rw [lcs]; exact hg, hR⟩
      · intro H8 s8 hl8
        rw [show (List.range xs4.length).map (fun i => V.int (sumI (cntsL rows) (legs.getD i []))) = ((List.range xs4.length).map fun i => sumI (cntsL rows) (legs.getD i [])).map V.int by rw [List.map_map]; rfl] at hl8
        refine ⟨D, _, rfl, .inl (.inl hl8), _, rfl, x, _, dx, _, rfl, s8 _ _ hx7, T.cl_Route, T.at_Route_count, by show 5 < 1000; decide, ?_⟩
        rw [f6, l4, mapR, legs_eq]
        have hx8 := s8 _ _ hx7
        have hq8 := s8 _ _ hq7
        have s8x : SameY x H H8 := fun b o n e => s8 _ _ (s7 _ _ n e)
        -- all but the object itself
        have sm : Same H (upd H8 x (.ins T.C_Route dx [("start", y1), ("arguments", y2), ("rows", y3), ("legs", y4)])) := fun b o e => by
          by_cases n : b = x
          · subst n
            rw [hx] at e
            cases e
            exact upd_same
          · rw [upd_ne n]
            exact s8x b o n e
        have hqm : (upd H8 x (.ins T.C_Route dx [("start", y1), ("arguments", y2), ("rows", y3), ("legs", y4)])) q = some (.lst ((cntsL rows).map fun n : Nat => V.int (n : Int))) := by rw [upd_ne nq.symm]; exact hq8
        have E1 := (Ev.ext (Ext.same sm) (Ev.res.same sm)).plus (Ev.res.uNew hq) (by rw [hqm]; intro z; cases z) (Ev.h0 hq) (Ev.fresh hq)
        have E2 := E1.mut (i := 0) (o' := .ins T.C_Route dx [("start", y1), ("arguments", y2), ("rows", y3), ("legs", y4), ("counts", .ref q), ("count", .int (((legs.map (sumN (cntsL rows))).sum : Nat) : Int))]) (by decide) rfl rfl (d' := dIns T.C_Route (r6 rows legs)) fun _ => ?_
        · have E3 := E2.drop 5 v5 (by decide)
          rw [upd_upd] at E3
          refine kn _ r qn _ _ _ E3 ⟨?_, ?_, ?_⟩
          · intro b o hb e
            have n : b ≠ x := fun z => nw (by rw [← z]; exact hb)
            rw [upd_ne n]
            exact s8x b o n e
          · intro b ys hb
            have h := sqT_sameY hx s8x hb
            exact sqT_sameY (x := x) hx8 (fun b o n e => by rw [upd_ne n]; exact e) h
          · intro b hb
            exact .inl hb
        · have nx : dx ≠ x := fun z => by rw [z, hx] at hdx; cases hdx
          have mv : ∀ {v : V} {d : PyData}, Dw K A1 W H v d → Dw K A1 (wPlus W q) (upd H8 x (.ins T.C_Route dx [("start", y1), ("arguments", y2), ("rows", y3), ("legs", y4), ("counts", .ref q), ("count", .int (((legs.map (sumN (cntsL rows))).sum : Nat) : Int))])) v d := fun h =>
            (dw_sameY (H' := upd H8 x (.ins T.C_Route dx [("start", y1), ("arguments", y2), ("rows", y3), ("legs", y4), ("counts", .ref q), ("count", .int (((legs.map (sumN (cntsL rows))).sum : Nat) : Int))])) hx nw (fun b o n e => by rw [upd_ne n]; exact s8x b o n e) h).mov (fun _ e => .inl e) (fun _ _ _ e => e) fun _ _ e => e
          rw [upd_upd]
          refine .ins (.inl hw) upd_same (by rw [upd_ne nx]; exact s8x _ _ nx hdx) ?_
          refine .cons (mv z1) (.cons (mv z2) (.cons (mv z3) (.cons (mv z4) (.cons (.lst (.inr rfl) (by rw [upd_ne nq.symm]; exact hq8) ?_) (.cons (.int _) .nil)))))
          exact dwA_ints _
  · rintro ds r Q ⟨rows, legs, rfl, g, q⟩
    have g0 := g
    obtain ⟨gr, gl, gk⟩ := g0
    rw [show startV n_Route_init [dIns T.C_Route [], cliD, .tuple [.str ""], .tuple (rows.map rowD), .tuple (legs.map .tuple)] = [some (dIns T.C_Route []), some (cliD), some (.tuple [.str ""]), some (.tuple (rows.map rowD)), some (.tuple (legs.map .tuple)), none, none] from rfl]
    repeat infer_instance
    refine ⟨rows, legs, rfl, gr, gl, gk, ?_⟩
    repeat infer_instance
    refine ⟨by show 3 < 1000; decide, rows, legs, rfl, ⟨gr, gl, gk⟩, ?_⟩
    repeat infer_instance
    first | exact q | trace_state
    done
end
end Sn
namespace Sn
open PySem PySem.Spec PyProof.Rows L2
/-- what is built row by row -/
def bld {α : Type} (f : List α → List D → α) (rows : List (List D)) : List α := rows.foldl (fun A r => A ++ [f A r]) []
section
variable {α : Type} {f : List α → List D → α}
theorem bld_pre : ∀ (l : List (List D)) (A : List α), (l.foldl (fun A r => A ++ [f A r]) A).take A.length = A ∧ (l.foldl (fun A r => A ++ [f A r]) A).length = A.length + l.length
  | [], A => ⟨by simp, rfl⟩
  | d :: l, A => by
    obtain ⟨h1, h2⟩ := bld_pre l (A ++ [f A d])
    rw [List.foldl_cons]
    refine ⟨?_, by rw [h2, List.length_append, List.length_cons, List.length_nil, List.length_cons]; omega⟩
    have e : A = ((l.foldl (fun A r => A ++ [f A r]) (A ++ [f A d])).take (A ++ [f A d]).length).take A.length := by rw [h1, List.take_left]
    rw [List.take_take, List.length_append, Nat.min_eq_left (Nat.le_add_right _ _)] at e
    exact e.symm
theorem bld_len (rows : List (List D)) : (bld f rows).length = rows.length := by
  have h := (bld_pre (f := f) rows []).2
  rw [List.length_nil, Nat.zero_add] at h
  exact h
theorem bld_app (l : List (List D)) (r : List D) : bld f (l ++ [r]) = bld f l ++ [f (bld f l) r] := by
  unfold bld
  rw [List.foldl_append]; rfl
theorem bld_take (rows : List (List D)) (i : Nat) : bld f (rows.take i) = (bld f rows).take i := by
  by_cases h : i ≤ rows.length
  · have h1 := (bld_pre (f := f) (rows.drop i) (bld f (rows.take i))).1
    have e : (rows.drop i).foldl (fun A r => A ++ [f A r]) (bld f (rows.take i)) = bld f rows := by
      unfold bld
      rw [← List.foldl_append, List.take_append_drop]
    rw [e, bld_len, List.length_take, Nat.min_eq_left h] at h1
    exact h1.symm
  · rw [List.take_of_length_le (by omega), List.take_of_length_le (by rw [bld_len]; omega)]
theorem bld_at {rows : List (List D)} {i : Nat} {cs : List D} (h : rows[i]? = some cs) : (bld f rows)[i]? = some (f ((bld f rows).take i) cs) := by
  have hi := (List.getElem?_eq_some_iff.mp h).1
  have e : rows.take (i + 1) = rows.take i ++ [cs] := by rw [List.take_add_one, h]; rfl
  have e2 := bld_take (f := f) rows (i + 1)
  rw [e, bld_app, bld_take] at e2
  have e3 : ((bld f rows).take (i + 1))[i]? = (bld f rows)[i]? := by rw [List.getElem?_take, if_pos (Nat.lt_succ_self i)]
  rw [← e3, ← e2, List.getElem?_append_right (by rw [List.length_take]; omega), List.length_take, bld_len, Nat.min_eq_left (Nat.le_of_lt hi), Nat.sub_self]
  rfl
end
/-- the answers of a choice, of choices, of the rows -/
def ansC (A : List (List D)) : D → List D
  | .int i => A.getD i.toNat []
  | d => [d]
def ansCs (A : List (List D)) (cs : List D) : List D := cs.flatMap (ansC A)
def ansL (rows : List (List D)) : List (List D) := bld ansCs rows
def ansAll (rows legs : List (List D)) : List D := legs.flatMap (ansCs (ansL rows))
def stC (S : List Nat) : D → Nat
  | .int i => 2 + S.getD i.toNat 0
  | _ => 1
def stCs (S : List Nat) (cs : List D) : Nat := (cs.map (stC S)).sum
def stL (rows : List (List D)) : List Nat := bld stCs rows
theorem getD_take {α : Type} {l : List α} {j i : Nat} {z : α} (h : j < i) : (l.take i).getD j z = l.getD j z := by
  rw [List.getD_eq_getElem?_getD, List.getD_eq_getElem?_getD, List.getElem?_take, if_pos h]
theorem ansCs_take {A : List (List D)} {i : Nat} {cs : List D} (h : ChsK i cs) : ansCs (A.take i) cs = ansCs A cs := by
  unfold ansCs
  have key : ∀ cs : List D, (∀ d ∈ cs, ChK i d) → cs.flatMap (ansC (A.take i)) = cs.flatMap (ansC A) := by
    intro cs
    induction cs with
    | nil => intro _; rfl
    | cons d cs ih =>
      intro h
      rw [List.flatMap_cons, List.flatMap_cons, ih fun x hx => h x (List.mem_cons_of_mem _ hx)]
      congr 1
      rcases h d List.mem_cons_self with ⟨c, rfl, _⟩ | ⟨j, rfl, hj⟩
      · rfl
      · exact getD_take (by show (j : Int).toNat < i; simpa using hj)
  exact key cs h.2
theorem stCs_take {S : List Nat} {i : Nat} {cs : List D} (h : ChsK i cs) : stCs (S.take i) cs = stCs S cs := by
  unfold stCs
  have key : ∀ cs : List D, (∀ d ∈ cs, ChK i d) → (cs.map (stC (S.take i))).sum = (cs.map (stC S)).sum := by
    intro cs
    induction cs with
    | nil => intro _; rfl
    | cons d cs ih =>
      intro h
      rw [List.map_cons, List.map_cons, List.sum_cons, List.sum_cons, ih fun x hx => h x (List.mem_cons_of_mem _ hx)]
      congr 1
      rcases h d List.mem_cons_self with ⟨c, rfl, _⟩ | ⟨j, rfl, hj⟩
      · rfl
      · show 2 + _ = 2 + _
        rw [getD_take (by show (j : Int).toNat < i; simpa using hj)]
  exact key cs h.2
theorem ansL_at {rows : List (List D)} (g : RowsK rows) {i : Nat} {cs : List D} (h : rows[i]? = some cs) : (ansL rows)[i]? = some (ansCs (ansL rows) cs) := by
  have e := bld_at (f := ansCs) h
  rw [ansCs_take (g.2 i cs h)] at e
  exact e
theorem stL_at {rows : List (List D)} (g : RowsK rows) {i : Nat} {cs : List D} (h : rows[i]? = some cs) : (stL rows)[i]? = some (stCs (stL rows) cs) := by
  have e := bld_at (f := stCs) h
  rw [stCs_take (g.2 i cs h)] at e
  exact e
/-- counts are lengths -/
theorem sumN_len {A : List (List D)} {i : Nat} : ∀ {cs : List D}, (∀ d ∈ cs, ChK i d) → sumN (A.map List.length) cs = (ansCs A cs).length
  | [], _ => rfl
  | d :: cs, h => by
    have ih := sumN_len (A := A) (cs := cs) fun x hx => h x (List.mem_cons_of_mem _ hx)
    unfold sumN ansCs at ih ⊢
    rw [List.map_cons, List.sum_cons, ih, List.flatMap_cons, List.length_append]
    congr 1
    rcases h d List.mem_cons_self with ⟨c, rfl, _⟩ | ⟨j, rfl, hj⟩
    · rfl
    · show (A.map List.length).getD (j : Int).toNat 0 = (A.getD (j : Int).toNat []).length
      rw [List.getD_eq_getElem?_getD, List.getD_eq_getElem?_getD, List.getElem?_map]
      cases A[(j : Int).toNat]? <;> rfl
theorem cntsL_len2 : ∀ (n : Nat) {rows : List (List D)}, rows.length = n → RowsK rows → cntsL rows = (ansL rows).map List.length
  | 0, rows, e, _ => by
    cases rows with
    | nil => rfl
    | cons _ _ => cases e
  | n + 1, rows, e, g => by
    have ex : ∃ cs, rows[n]? = some cs := ⟨rows[n]'(by omega), List.getElem?_eq_getElem (by omega)⟩
    obtain ⟨cs, hcs⟩ := ex
    have er : rows = rows.take n ++ [cs] := by
      have h : rows.take (n + 1) = rows.take n ++ [cs] := by rw [List.take_add_one, hcs]; rfl
      rw [← h, List.take_of_length_le (by omega)]
    have gt : RowsK (rows.take n) := ⟨by rw [List.length_take]; have := g.1; omega, fun k c hk => g.2 k c (by
      rw [List.getElem?_take] at hk
      by_cases hkn : k < n
      · rw [if_pos hkn] at hk; exact hk
      · rw [if_neg hkn] at hk; cases hk)⟩
    have ih := cntsL_len2 n (rows := rows.take n) (by rw [List.length_take]; omega) gt
    have ea : ansL (rows.take n ++ [cs]) = ansL (rows.take n) ++ [ansCs (ansL (rows.take n)) cs] := bld_app _ _
    have hc := g.2 n cs hcs
    rw [er, cntsL_app, ea, List.map_append, ih, sumN_len hc.2]
    rfl
theorem cnts_eq {rows : List (List D)} (g : RowsK rows) : cntsL rows = (ansL rows).map List.length := cntsL_len2 _ rfl g
theorem legsN_len {rows legs : List (List D)} (g : GoodR rows legs) : legsN rows legs = (ansAll rows legs).length := by
  unfold legsN ansAll
  rw [cnts_eq g.1]
  have key : ∀ legs : List (List D), (∀ l ∈ legs, ChsK rows.length l) → (legs.map (sumN ((ansL rows).map List.length))).sum = (legs.flatMap (ansCs (ansL rows))).length := by
    intro legs
    induction legs with
    | nil => intro _; rfl
    | cons d l ih =>
      intro h
      rw [List.map_cons, List.sum_cons, List.flatMap_cons, List.length_append, ih fun x hx => h x (List.mem_cons_of_mem _ hx), sumN_len (h d List.mem_cons_self).2]
  exact key legs g.2.2
inductive Stk (n L : Nat) : Nat → List (List D × Nat) → Prop
  | base {st : List (List D × Nat)} : (∀ e ∈ st, ChsK n e.1) → st.length ≤ L → Stk n L n st
  | push {b b' : Nat} {cs : List D} {t : Nat} {st : List (List D × Nat)} : Stk n L b' st → b < b' → ChsK b cs → Stk n L b ((cs, t) :: st)
theorem Stk.len {n L b : Nat} {st : List (List D × Nat)} (h : Stk n L b st) : st.length + b ≤ L + n ∧ b ≤ n := by
  induction h with
  | base _ h => exact ⟨by omega, Nat.le_refl _⟩
  | push h hb _ ih => exact ⟨by rw [List.length_cons]; omega, by omega⟩
theorem Stk.top {n L b : Nat} {e : List D × Nat} {st : List (List D × Nat)} (h : Stk n L b (e :: st)) : ChsK b e.1 ∧ (∃ b', Stk n L b' st) ∧ ∀ t, Stk n L b ((e.1, t) :: st) := by
  cases h with
  | base h1 h2 => exact ⟨h1 e List.mem_cons_self, ⟨n, .base (fun x hx => h1 x (List.mem_cons_of_mem _ hx)) (by rw [List.length_cons] at h2; omega)⟩, fun t => .base (fun x hx => by
      rcases List.mem_cons.mp hx with rfl | hx
      · exact h1 e List.mem_cons_self
      · exact h1 x (List.mem_cons_of_mem _ hx)) (by rw [List.length_cons] at h2 ⊢; omega)⟩
  | push h1 h2 h3 => exact ⟨h3, ⟨_, h1⟩, fun t => .push h1 h2 h3⟩
def remA (A : List (List D)) (st : List (List D × Nat)) : List D := st.flatMap fun e => ansCs A (e.1.drop e.2)
def remS (S : List Nat) (st : List (List D × Nat)) : Nat := (st.map fun e => 1 + stCs S (e.1.drop e.2)).sum
def prD (e : List D × Nat) : D := .tuple [.tuple e.1, .int (e.2 : Int)]
def wtD (st : List (List D × Nat)) : D := .list (st.map prD).reverse
end Sn
namespace Sn
open PySem PySem.Spec PyProof.Rows L2 GenW
/-- the heap below n -/
def cutH (h : Heap) (n : Nat) : Heap := { h with objs := h.objs.extract 0 n }
theorem arr_cut {α : Type} (xs : Array α) {n b : Nat} (hb : b < n) : (xs.extract 0 n)[b]? = xs[b]? := by
  rw [Array.getElem?_extract]
  by_cases hs : b < xs.size
  · rw [if_pos (by omega), Nat.zero_add]
  · rw [if_neg (by omega), Array.getElem?_eq_none (by omega)]
theorem cutH_lt {h : Heap} {n : Nat} {b : Addr} (hb : b < n) : (cutH h n).get? b = h.get? b := by
  unfold Heap.get? cutH
  rw [show (h.objs.extract 0 n)[b]? = h.objs[b]? from arr_cut h.objs hb]
theorem cutH_at {h : Heap} {n : Nat} {b : Addr} {o : Obj} (e : (cutH h n).get? b = some o) : b < n ∧ h.get? b = some o := by
  have hs := Heap.lt_size e
  have h1 : (h.objs.extract 0 n).size ≤ n := by rw [Array.size_extract]; omega
  have hb : b < n := Nat.lt_of_lt_of_le hs h1
  exact ⟨hb, by rw [← cutH_lt hb]; exact e⟩
theorem cutH_size {h : Heap} {n : Nat} (hn : n ≤ h.objs.size) : (cutH h n).objs.size = n := by
  show (h.objs.extract 0 n).size = n
  rw [Array.size_extract]
  omega
theorem cutH_funs {h base : Heap} {n : Nat} : ∀ {l : List PySem.Env}, h.FunFrames base l → (∀ b ∈ frs l, b < n) → (cutH h n).FunFrames base l
  | [], _, _ => True.intro
  | env :: rest, hf, hl => by
    obtain ⟨h1, ⟨L, o, e1, e2, e3, e4⟩, h3⟩ := hf
    have hL : L < n := hl L (by unfold frs; rw [List.filterMap_cons, e1]; exact List.mem_cons_self)
    refine ⟨h1, ⟨L, o, e1, e2, by rw [cutH_lt hL]; exact e3, e4⟩, cutH_funs h3 fun b hb => hl b ?_⟩
    unfold frs at hb ⊢
    rw [List.filterMap_cons, e1]
    exact List.mem_cons_of_mem _ hb
abbrev cutS (s : Shared) (n : Nat) : Shared := { s with heap := cutH s.heap n }
/-- X rooted anew -/
abbrev XR (X : Cx) (t : Shared) (J : Hp) : Cx := { X with s_0 := t, H_0 := J, xe := fun _ _ => False }
/-- what the consumer must leave when it wakes the generator again -/
structure Woke (X : Cx) (s : Shared) (H : Hp) (s' : Shared) (H' : Hp) : Prop where
  os : s'.os = s.os
  bare : AllBare s'.gens
  hok : HOk X.prog X.w H' s'.heap
  bs : ∀ b o, X.base.get? b = some o → s'.heap.get? b = some o ∧ H' b = none
  funs : s'.heap.FunFrames X.base X.outer
  frf : ∀ b ∈ X.fs, H' b = none
  keep : ∀ b o, s.heap.get? b = some o → H b = none → b ∉ X.fs → s'.heap.get? b = some o ∧ H' b = none
section
variable {X : Cx} {ip : List (Addr × Obj)} {σ : L2.St} {H H' J : Hp} {s s' t : Shared}
theorem frs_lt {b : Addr} {h base : Heap} {l : List PySem.Env} (hf : h.FunFrames base l) (hb : b ∈ frs l) : b < h.objs.size := by
  obtain ⟨_, o, e, _⟩ := hf.mem hb
  exact Heap.lt_size e
theorem inv_root (ok0 : X.Ok) (hx : X.ex = []) (hcells : ∀ x c, X.env.cells.lookup x = some c → X.s_0.heap.objs.size ≤ c) (I : Inv (XR X t J) ip σ H s) (k : Woke X s H s' H') : Inv (XR X (cutS s' X.s_0.heap.objs.size) H') ip σ H' s' := by
  have hfs : ∀ b ∈ X.fs, b < X.s_0.heap.objs.size := fun b hb => frs_lt ok0.funs hb
  have hL : X.env.locals ∉ X.fs := fun z => absurd (Nat.lt_of_lt_of_le (hfs _ z) ok0.above) (Nat.lt_irrefl _)
  have hC : ∀ x c, X.env.cells.lookup x = some c → c ∉ X.fs := fun x c e z => absurd (Nat.lt_of_lt_of_le (hfs _ z) (hcells x c e)) (Nat.lt_irrefl _)
  have hex : ∀ b, b ∉ X.ex := fun b z => by rw [hx] at z; cases z
  obtain ⟨m, hm, hv⟩ := I.loc
  have hsz : (cutH s'.heap X.s_0.heap.objs.size).objs.size = X.s_0.heap.objs.size := by
    obtain ⟨o, es, ep, ho, _⟩ := id hm
    exact cutH_size (Nat.le_trans ok0.above (Nat.le_of_lt (Heap.lt_size (k.keep _ o ho I.free hL).1)))
  have cellK : ∀ x c v, X.env.cells.lookup x = some c → s.heap.IsCell c v → s'.heap.IsCell c v := fun x c v e hc => by
    obtain ⟨o, ho, hd⟩ := hc
    exact ⟨o, (k.keep c o ho (I.freeC x c e) (hC x c e)).1, hd⟩
  refine ⟨⟨ok0.mod, ok0.kind, ok0.glob, ok0.blt, by show (cutH s'.heap _).objs.size ≤ _; rw [hsz]; exact ok0.above, ok0.inj, ok0.has, fun x c h e => by show (cutH s'.heap _).objs.size ≤ _; rw [hsz]; exact ok0.cab x c h e, ok0.hd, ok0.frames, ok0.stk, ok0.exf,
      fun b o e => ?_, by show _ ≤ (cutH s'.heap _).objs.size; rw [hsz]; exact ok0.bsz, ok0.noex, ok0.exfs, cutH_funs k.funs hfs, k.frf⟩, rfl, k.bare, ⟨?_, ?_, ?_, ?_, fun _ _ e => e, fun _ _ _ e => e, fun b ps e => ⟨#[], by rw [Array.append_empty]; exact e⟩⟩, ⟨m, ?_, fun i x v e1 e2 e3 => ?_⟩, fun x c e => ?_, ?_, fun x c e => ?_, fun p hp => ?_, k.hok, I.len⟩
  · obtain ⟨h1, h2⟩ := k.bs b o e
    refine ⟨?_, h2⟩
    show (cutH s'.heap _).get? b = some o
    rw [cutH_lt (Nat.lt_of_lt_of_le (Heap.lt_size e) ok0.bsz)]
    exact h1
  · exact fun b o e _ _ _ => (cutH_at e).2
  · exact fun b o e _ _ _ => ⟨o.slots, (cutH_at e).2⟩
  · exact fun b o e n _ => n
  · exact fun b o e _ => ⟨o, (cutH_at e).2⟩
  · obtain ⟨o, es, ep, ho, r⟩ := hm
    exact ⟨o, es, ep, (k.keep _ o ho I.free hL).1, r⟩
  · obtain ⟨u, ru, l⟩ := hv i x v e1 e2 e3
    refine ⟨u, ru, ?_⟩
    rcases l with ⟨h1, h2⟩ | ⟨h1, c, h2, h3⟩
    · exact .inl ⟨h1, h2⟩
    · exact .inr ⟨h1, c, h2, cellK x c _ h2 h3⟩
  · obtain ⟨v, hv⟩ := I.cell x c e
    exact ⟨v, cellK x c v e hv⟩
  · obtain ⟨o, es, ep, ho, r⟩ := hm
    exact (k.keep _ o ho I.free hL).2
  · obtain ⟨v, o, ho, hd⟩ := I.cell x c e
    exact (k.keep c o ho (I.freeC x c e) (hC x c e)).2
  · obtain ⟨h1, h2, h3, h4, h5⟩ := I.pin p hp
    obtain ⟨g1, g2⟩ := k.keep _ _ h1 h2 h4
    exact ⟨g1, g2, h3, h4, h5⟩
end
structure RootOk (X : Cx) : Prop where
  ok : X.Ok
  ex : X.ex = []
  cells : ∀ x c, X.env.cells.lookup x = some c → X.s_0.heap.objs.size ≤ c
/-- running; s₀: as it was woken; G: what the consumer knows of its own state and heap there -/
def GIR (X : Cx) (G : Shared → Hp → Prop) (s₀ : Shared) (ip : List (Addr × Obj)) (σ : L2.St) (H : Hp) (s : Shared) : Prop :=
  ∃ J, G s₀ J ∧ Inv (XR X (cutS s₀ X.s_0.heap.objs.size) J) ip σ H s
/-- what the consumer makes of an item -/
abbrev YQ := V → Hp → (Hp → Prop) → Prop
def GYR (X : Cx) (G : Shared → Hp → Prop) (yq : YQ) : Protocol := fun _ s₀ v s kap =>
  ∃ x ip σ H cont, RelV x v ∧ GIR X G s₀ ip σ H s ∧ yq x H cont ∧ ∀ s' H', Woke X s H s' H' → G s' H' → cont H' → kap (.send .none) s'
structure GEndsR where
  nx : Nat → L2.St → Hp → Prop
  rt : Nat → VK
  bk : Nat → L2.St → Hp → Prop := fun _ _ _ => False
  ct : Nat → L2.St → Hp → Prop := fun _ _ _ => False
abbrev TGR := GEndsR → Nat → L2.St → Hp → Prop
def GEndsR.at (D : GEndsR) (k : Nat) : Ends := { nx := D.nx k, rt := D.rt k, bk := D.bk k, ct := D.ct k }
def GSPR (X : Cx) (G : Shared → Hp → Prop) (s₀ : Shared) (ip : List (Addr × Obj)) (D : GEndsR) (k : Nat) (f : Flow) (s : Shared) : Prop :=
  match f with
  | .next => ∃ σ H, GIR X G s₀ ip σ H s ∧ D.nx k σ H
  | .brk => ∃ σ H, GIR X G s₀ ip σ H s ∧ D.bk k σ H
  | .cont => ∃ σ H, GIR X G s₀ ip σ H s ∧ D.ct k σ H
  | .ret u => ∃ v σ H, GIR X G s₀ ip σ H s ∧ RelV v u ∧ D.rt k v H
/-- where the generator's code stands -/
structure GCR (X : Cx) (A : Around) (c : Code) (fs : List Frame) (gd : Bool → Bool) : Prop where
  root : RootOk X
  over : A.over c fs = X.A
  split : splitAtGen fs = none
  guard : fs.any Frame.guarded = false
  gd : gd false = false
structure GKR (X : Cx) (G : Shared → Hp → Prop) (yq : YQ) (ip : List (Addr × Obj)) (A : Around) (R : GenEnd) (c : Code) (fs : List Frame) (K : Flow → Sem PySem.Fin) (D : GEndsR) : Prop where
  ok : ∀ (n k : Nat) (s₀ s : Shared) (f : Flow), n + k = sizeLine → GSPR X G s₀ ip D k f s → Seg (model X.prog X.w) A R (GYR X G yq) n s₀ c (K f) fs s
structure GSR (X : Cx) (yq : YQ) (st : Stmt) (t : TGR) : Prop where
  run : ∀ (G : Shared → Hp → Prop) (A : Around) (ip : List (Addr × Obj)) (R : GenEnd) (n k : Nat) (s₀ : Shared) (c : Code) (fs : List Frame) (K : Flow → Sem PySem.Fin) (J : Value → Sem PySem.Fin) (gd : Bool → Bool) (lv : List Value → List Value) (s : Shared) (σ : L2.St) (H : Hp) (D : GEndsR),
    GCR X A c fs gd → n + k = sizeLine → GKR X G yq ip A R c fs K D → GIR X G s₀ ip σ H s → t D k σ H →
    Seg (model X.prog X.w) A R (GYR X G yq) n s₀ c ((exec st X.env).wrap K J gd lv) fs s
structure GSRs (X : Cx) (yq : YQ) (st : List Stmt) (t : TGR) : Prop where
  run : ∀ (G : Shared → Hp → Prop) (A : Around) (ip : List (Addr × Obj)) (R : GenEnd) (n k : Nat) (s₀ : Shared) (c : Code) (fs : List Frame) (K : Flow → Sem PySem.Fin) (J : Value → Sem PySem.Fin) (gd : Bool → Bool) (lv : List Value → List Value) (s : Shared) (σ : L2.St) (H : Hp) (D : GEndsR),
    GCR X A c fs gd → n + k = sizeLine → GKR X G yq ip A R c fs K D → GIR X G s₀ ip σ H s → t D k σ H →
    Seg (model X.prog X.w) A R (GYR X G yq) n s₀ c ((execs st X.env).wrap K J gd lv) fs s
section
variable {X : Cx} {yq : YQ} {st : Stmt} {rest : List Stmt}
/-- statements that hand out nothing -/
def gPlainR (t : TS) : TGR := fun D k σ H => t (D.at k) σ H
theorem sp_gspr {G : Shared → Hp → Prop} {s₀ s : Shared} {J : Hp} {ip : List (Addr × Obj)} {D : GEndsR} {k : Nat} {f : Flow} (hG : G s₀ J) (h : SP (XR X (cutS s₀ X.s_0.heap.objs.size) J) ip (D.at k) f s) : GSPR X G s₀ ip D k f s := by
  cases f with
  | next => obtain ⟨σ, H, I, q⟩ := h; exact ⟨σ, H, ⟨J, hG, I⟩, q⟩
  | brk => obtain ⟨σ, H, I, q⟩ := h; exact ⟨σ, H, ⟨J, hG, I⟩, q⟩
  | cont => obtain ⟨σ, H, I, q⟩ := h; exact ⟨σ, H, ⟨J, hG, I⟩, q⟩
  | ret u => obtain ⟨v, σ, H, I, r1, q⟩ := h; exact ⟨v, σ, H, ⟨J, hG, I⟩, r1, q⟩
theorem gsr_ps {t : TS} (h : ∀ t0 J, PS (XR X t0 J) st t) : GSR X yq st (gPlainR t) := by
  refine ⟨fun G A ip R n k s₀ c fs K J gd lv s σ H D g hn kk hI ht => ?_⟩
  obtain ⟨J0, hG, I⟩ := hI
  refine seg_wrap ?_
  rw [g.over]
  exact wpAny_mono ((h _ _).run ip s σ H (D.at k) I ht) (fun f s' hs => kk.ok n k s₀ s' f hn (sp_gspr hG hs)) fun x s' hx => False.elim hx
def gNilR : TGR := fun D k σ H => D.nx k σ H
theorem gsrs_nil : GSRs X yq [] gNilR := by
  refine ⟨fun G A ip R n k s₀ c fs K J gd lv s σ H D g hn kk hI ht => ?_⟩
  exact seg_execs_nil (kk.ok n k s₀ s .next hn ⟨σ, H, hI, ht⟩)
def gThenR (t u : TGR) : TGR := fun D k σ H => t { D with nx := fun k' σ' H' => u D k' σ' H' } k σ H
theorem gsrs_cons {t u : TGR} (a : GSR X yq st t) (b : GSRs X yq rest u) : GSRs X yq (st :: rest) (gThenR t u) := by
  refine ⟨fun G A ip R n k s₀ c fs K J gd lv s σ H D g hn kk hI ht => ?_⟩
  refine seg_execs_cons ?_
  refine a.run G A ip R n k s₀ c fs _ J gd lv s σ H { D with nx := fun k' σ' H' => u D k' σ' H' } g hn ⟨fun n' k' s₀' s' f hn' hs => ?_⟩ hI ht
  cases f with
  | next =>
    obtain ⟨σ', H', I', q⟩ := hs
    exact b.run G A ip R n' k' s₀' c fs K J gd lv s' σ' H' D g hn' kk I' q
  | brk => exact kk.ok n' k' s₀' s' .brk hn' hs
  | cont => exact kk.ok n' k' s₀' s' .cont hn' hs
  | ret u => exact kk.ok n' k' s₀' s' (.ret u) hn' hs
/-- yield e -/
def gYieldR (yq : YQ) (te : TE) : TGR := fun D k σ H => k < sizeLine ∧ te σ H fun x H1 => yq x H1 fun H2 => D.nx (k + 1) σ H2
theorem gsr_yield {e : Expr} {yp pos : Pos} {te : TE} (he : ∀ t0 J, PE (XR X t0 J) e te) (hco : X.env.scope.isCoroutine = false := by rfl) (hi : interactive X.env = false := by rfl) : GSR X yq (.Expr (.Yield (some e) yp) pos) (gYieldR yq te) := by
  refine ⟨fun G A ip R n k s₀ c fs K J gd lv s σ H D g hn kk hI ht => ?_⟩
  obtain ⟨hlt, ht⟩ := ht
  obtain ⟨n, rfl⟩ : ∃ m, n = m + 1 := ⟨n - 1, by omega⟩
  obtain ⟨J0, hG, I⟩ := hI
  refine seg_Expr_Yield g.split g.gd g.guard ?_ hco hi
  rw [g.over]
  refine wpAny_mono ((he _ _).run ip s σ H _ I ht) (fun v s' hv => ?_) fun x s' hx => False.elim hx
  obtain ⟨x, H1, I1, rv, q⟩ := hv
  intro kap hk
  refine ⟨x, ip, σ, H1, _, rv, ⟨J0, hG, I1⟩, q, fun s'' H2 wk hG2 q2 => hk .none s'' ?_⟩
  exact kk.ok n (k + 1) s'' s'' .next (by omega) ⟨σ, H2, ⟨H2, hG2, inv_root g.root.ok g.root.ex g.root.cells I1 wk⟩, q2⟩
def gIfR (c : TT) (t u : TGR) : TGR := fun D k σ H => c σ H fun b H1 => if b = true then t D k σ H1 else u D k σ H1
theorem gsr_if {test : Expr} {body els : List Stmt} {pos : Pos} {tc : TT} {t u : TGR} (hc : ∀ t0 J, L2.PT (XR X t0 J) test tc) (hb : GSRs X yq body t) (he : GSRs X yq els u) : GSR X yq (.If test body els pos) (gIfR tc t u) := by
  refine ⟨fun G A ip R n k s₀ c fs K J gd lv s σ H D g hn kk hI ht => ?_⟩
  obtain ⟨J0, hG, I⟩ := hI
  rw [exec_If]
  refine seg_at ?_
  show Seg _ _ _ _ n s₀ c ((isTrue test X.env (eval test X.env) >>= fun b => if b = true then execs body X.env else execs els X.env).wrap K J gd lv) fs s
  rw [Sem.bind_eq_wrap', Sem.wrap_wrap]
  refine seg_wrap ?_
  rw [g.over]
  refine wpAny_mono ((hc _ _).run ip s σ H _ I ht) (fun b s' hb' => ?_) fun x s' hx => False.elim hx
  obtain ⟨H2, I2, q2⟩ := hb'
  cases b with
  | true =>
    rw [if_pos rfl] at q2 ⊢
    exact hb.run G A ip R n k s₀ c fs K J _ _ s' σ H2 D g hn kk ⟨J0, hG, I2⟩ q2
  | false =>
    rw [if_neg Bool.false_ne_true] at q2 ⊢
    exact he.run G A ip R n k s₀ c fs K J _ _ s' σ H2 D g hn kk ⟨J0, hG, I2⟩ q2
def gWhileR (c : TT) (tb : TGR) : TGR := fun D k σ H => ∃ W : Nat → Nat → L2.St → Hp → Prop, (∃ m, W m k σ H) ∧ ∀ m k σ H, W m k σ H →
  c σ H fun b H1 => if b = true then ∃ N : Nat → L2.St → Hp → Prop, (∀ k' σ' H', N k' σ' H' → ∃ m', m' < m ∧ W m' k' σ' H') ∧ tb { D with nx := N, ct := N, bk := D.nx } k σ H1 else D.nx k σ H1
theorem gcr_loop {A : Around} {c c' : Code} {fs : List Frame} {gd : Bool → Bool} {k : Result → Sem PySem.Fin} {l kp : List Value} {p : Pos} (g : GCR X A c fs gd) (hw : c'.weight = 0) (hu : c'.cUnits = 0) :
    GCR X A c' (.ret k none (gd false) l c p kp :: fs) id where
  root := g.root
  over := (over_loop hw hu).trans g.over
  split := by
    show (splitAtGen fs).map _ = none
    rw [g.split]; rfl
  guard := by
    show (gd false || fs.any Frame.guarded) = false
    rw [g.gd, g.guard]; rfl
  gd := rfl
theorem gsr_while {test : Expr} {body : List Stmt} {pos : Pos} {tc : TT} {tb : TGR} (hc : ∀ t0 J, L2.PT (XR X t0 J) test tc) (hb : GSRs X yq body tb) : GSR X yq (.While test body [] pos) (gWhileR tc tb) := by
  refine ⟨fun G A ip R n k s₀ c fs K J gd lv s σ H D g hn kk hI ht => ?_⟩
  obtain ⟨W, ⟨m0, w0⟩, turn⟩ := ht
  refine seg_While fun p => ?_
  have gl := fun (r : Result → Sem PySem.Fin) => gcr_loop (k := r) (c' := .whileLoop test body [] X.env) (l := lv []) (kp := []) (p := p) g rfl rfl
  have loop : ∀ (m n k : Nat) (s₀ s : Shared) (σ : L2.St) (H : Hp), n + k = sizeLine → W m k σ H → GIR X G s₀ ip σ H s →
      Seg (model X.prog X.w) A R (GYR X G yq) n s₀ (.whileLoop test body [] X.env) ((model X.prog X.w).den (.whileLoop test body [] X.env))
        (.ret (fun r => ((match r with | .ok f => (.pure f : Sem Flow) | .error e => .raise e).onRaise (cameBack X.env)).wrap K J gd lv) none (gd false) (lv []) c p [] :: fs) s := by
    intro m
    induction m using Nat.strongRecOn with
    | ind m ih =>
      intro n k s₀ s σ H hn w hI
      refine seg_whileLoop ?_
      rw [(gl _).over]
      obtain ⟨J0, hG, I⟩ := hI
      refine wpAny_mono ((hc _ _).run ip s σ H _ I (turn m k σ H w)) (fun b s' hb' => ?_) fun x s' hx => False.elim hx
      obtain ⟨H2, I2, q2⟩ := hb'
      cases b with
      | true =>
        obtain ⟨N, hN, q2⟩ := q2
        rw [if_pos rfl]
        refine hb.run G A ip R n k s₀ _ _ _ _ id id s' σ H2 { D with nx := N, ct := N, bk := D.nx } (gl _) hn ⟨fun n' k' s₀' s3 f hn' hs => ?_⟩ ⟨J0, hG, I2⟩ q2
        cases f with
        | next =>
          obtain ⟨σ3, H3, I3, n3⟩ := hs
          obtain ⟨m', hm, w3⟩ := hN k' σ3 H3 n3
          exact seg_again rfl (ih m' hm n' k' s₀' s3 σ3 H3 hn' w3 I3)
        | cont =>
          obtain ⟨σ3, H3, I3, n3⟩ := hs
          obtain ⟨m', hm, w3⟩ := hN k' σ3 H3 n3
          exact seg_again rfl (ih m' hm n' k' s₀' s3 σ3 H3 hn' w3 I3)
        | brk => exact seg_leaf (.ok .next) (kk.ok n' k' s₀' s3 .next hn' hs)
        | ret v => exact seg_leaf (.ok (.ret v)) (kk.ok n' k' s₀' s3 (.ret v) hn' hs)
      | false =>
        rw [if_neg Bool.false_ne_true]
        refine seg_execs_nil ?_
        exact seg_leaf (.ok .next) (kk.ok n k s₀ s' .next hn ⟨σ, H2, ⟨J0, hG, I2⟩, q2⟩)
  exact loop m0 n k s₀ s σ H hn w0 hI
end
/-- the arguments, the heap, what the consumer makes of an item, what is wanted of the heap at the end -/
abbrev SpGR := List V → Hp → YQ → (Hp → Prop) → Prop
def REndR (X : Cx) (G : Shared → Hp → Prop) (fin : Hp → Prop) : GenEnd := fun _ s₀ r s1 => ((r = .ok (.ret .none) ∨ r = .ok .next) ∧ ∃ ip σ H', GIR X G s₀ ip σ H' s1 ∧ fin H') ∨ ∃ e, r = .error e ∧ False
/-- a generator that has not begun -/
def GMadeR (P : Program) (w : World) (K : PySem.W.Frag) (mg : Str → Option Value) (base : Heap) (k : Nat) (outer : List PySem.Env) (H : Hp) (s : Shared) (yq : YQ) (fin : Hp → Prop) (u : Value) (s' : Shared) : Prop :=
  ∃ (a : Addr) (g : Nat) (c : Code), u = .ref a ∧ s.heap.objs.size ≤ a ∧ a < s'.heap.objs.size ∧ s'.heap.IsGen a g ∧ s'.gens[g]? = some (.fresh c) ∧ s'.os = s.os ∧ AllBare s'.gens ∧ (∀ b o, s.heap.get? b = some o → s'.heap.get? b = some o) ∧
    ∀ (A : Around), Room k A → A.frames = some outer → ∃ X : Cx, X.prog = P ∧ X.w = w ∧ X.base = base ∧ X.outer = outer ∧ X.s_0 = s ∧ RootOk X ∧ (∃ go, (a, go) ∈ X.pn ∧ ∀ h : Heap, h.get? a = some go → h.IsGen a g) ∧
      ∀ (G : Shared → Hp → Prop) (s2 : Shared), Woke X s' H s2 H → G s2 H → Seg (model P w) A (REndR X G fin) (GYR X G yq) sizeLine s2 c ((model P w).den c) [] s2
structure GFnR (P : Program) (w : World) (K : PySem.W.Frag) (mg : Str → Option Value) (base : Heap) (k : Nat) (f : Addr) (fd : FuncData) (ps : List Str) (sp : SpGR) : Prop where
  len : ∀ vs H yq fin, sp vs H yq fin → vs.length = ps.length
  run : ∀ (A : Around) (outer : List PySem.Env) (s : Shared) (H : Hp) (args : Args) (us : List Value) (vs : List V) (yq : YQ) (fin : Hp → Prop), Room k A → Env0 P w K mg base A outer s H → BindsTo s fd args (ps.zip us) → Vals vs us → sp vs H yq fin →
    codeAny (model P w) A (.call (.ref f) args) (fun r s' => match r with | .ok (.ret u) => GMadeR P w K mg base k outer H s yq fin u s' | _ => False) s
theorem gfnR_of {P : Program} {w : World} {K : PySem.W.Frag} {mg : Str → Option Value} {base : Heap} {k : Nat} {f : Addr} {name qual : Str} {params : Arguments} {body : List Stmt} {scope : Scope} {dV kV doc pm cdv ct oc : Value} {an od : Option Addr}
    {osl : Array (Option Value)} {N ps : List Str} {sp : SpGR} (lk : K.lookup f = some ⟨oc, od, .func (PySem.W.fnOf name qual params body scope dV kV doc pm an cdv ct), osl⟩) (hcd : PySem.W.codeIn K cdv qual = true) (S : GScope N ps scope)
    (len : ∀ vs H yq fin, sp vs H yq fin → vs.length = ps.length)
    (hbody : ∀ (A : Around) (outer : List PySem.Env) (s : Shared) (H : Hp) (vs : List V) (yq : YQ) (fin : Hp → Prop) (pn : List (Addr × Obj)), Room k (A.deeper (envOfC qual scope s.heap.objs.size f cdv)) → sp vs H yq fin →
      ∃ t, GSRs (gcxOf P w K mg base N qual scope f cdv A outer s H (fun _ _ _ => False) pn) yq body t ∧ t { nx := fun _ _ H' => fin H', rt := fun _ v H' => v = .non ∧ fin H' } 0 (start N vs) H) :
    GFnR P w K mg base (k + 1) f (PySem.W.fnOf name qual params body scope dV kV doc pm an cdv ct) ps sp := by
  refine ⟨len, fun A outer s H args us vs yq fin hr e0 hb r hsp => ?_⟩
  have hl := len _ _ _ _ hsp
  have KX : K.In s.heap := e0.mod.kin.keeps fun b o e => (e0.bs b o e).1
  have lim : s.heap.NoLimit := e0.mod.nolimit.keeps fun b o e => (e0.bs b o e).1
  have hkind : ∀ y ∈ ps.zip us, scope.names.lookup y.1 = some .local ∨ (scope.names.lookup y.1 = some .cell ∧ ((cellsFrom (s.heap.objs.size + 1) scope.names []).lookup y.1).isSome = true) := fun ⟨n, v⟩ hy => by
    rcases S.par n (List.of_mem_zip hy).1 with q | q
    · exact .inl q
    · exact .inr ⟨q, PySem.W.cellsFrom_some _ _ _ (.inl q)⟩
  refine codeAny_call_generator hr.depth (KX _ _ lk) rfl S.co S.gen rfl (PySem.W.codeRec_of KX hcd) (hb _ _ _ _ ?_)
  refine wpAny_newFunctionEnv_cells S.kind hkind fun env he s1 x => ?_
  subst he
  have lim1 : s1.heap.NoLimit := lim.keeps x.toInCall.keep
  refine ⟨lim1, ?_⟩
  obtain ⟨h1, tk, es1, hk1⟩ := x.done
  have os1 : s1.os = s.os := by rw [es1]
  have gen1 : s1.gens = s.gens := by rw [es1]
  have lt1 : s.heap.objs.size < s1.heap.objs.size := x.toInCall.ns.lt
  have sz1 : s.heap.objs.size ≤ s1.heap.objs.size := Nat.le_of_lt lt1
  have kp1 : ∀ b o, s.heap.get? b = some o → s1.heap.get? b = some o := x.toInCall.keep
  have main : ∀ (go : Obj) (nm qn : Value) (tk2 : Nat), go.cls = .type "generator" → go.data = .fields #[.int s1.gens.size 0, nm, qn] → go.slots = #[] → (∀ h : Heap, (h.push go).get? h.objs.size = some go) →
      GMadeR P w K mg base (k + 1) outer H s yq fin (.ref s1.heap.objs.size) { s1 with gens := s1.gens.push (.fresh (.func body (envOfC qual scope s.heap.objs.size f cdv))), toks := tk2, heap := s1.heap.push go } := by
    intro go nm qn tk2 hgc hgd0 hgs hgp
    have hgen : ∀ h : Heap, h.get? s1.heap.objs.size = some go → h.IsGen s1.heap.objs.size s1.gens.size := fun h e => ⟨go, nm, qn, e, hgc, hgd0, hgs⟩
    have hpushed : (s1.heap.push go).get? s1.heap.objs.size = some go := hgp _
    refine ⟨s1.heap.objs.size, s1.gens.size, _, rfl, sz1, ?_, hgen _ hpushed, Array.getElem?_push_size .., os1, ?_, fun b o e => Heap.get?_push_of_some _ (kp1 b o e), ?_⟩
    · show _ < (s1.heap.push _).objs.size
      rw [Heap.size_push]; exact Nat.lt_succ_self _
    · exact AllBare.push (by rw [gen1]; exact e0.bare) rfl
    intro Aw hrw hfr
    have e0w : Env0 P w K mg base Aw outer s H := ⟨hfr, e0.mod, e0.bs, e0.bsz, e0.funs, e0.frf, e0.hok, e0.bare⟩
    have I1 : Inv (gcxOf P w K mg base N qual scope f cdv Aw outer s H (fun _ _ _ => False) []) [] (start N vs) H s1 := inv_startG S hrw.hd e0w hl r x
    have hgd : ∀ v, go.data ≠ .cell v := fun v q => by rw [hgd0] at q; cases q
    have I1' : Inv (gcxOf P w K mg base N qual scope f cdv Aw outer s H (fun _ _ _ => False) []) [] (start N vs) H { s1 with gens := s1.gens.push (.fresh (.func body (envOfC qual scope s.heap.objs.size f cdv))), toks := tk2, heap := s1.heap.push go } :=
      I1.call' (ch := []) rfl (Un.kept fun b o e => Heap.get?_push_of_some _ e) (I1.hok.kept fun b o e => Heap.get?_push_of_some _ e) (AllBare.push (by rw [gen1]; exact e0.bare) rfl) fun b z => by simp at z
    have young : H s1.heap.objs.size = none ∧ s1.heap.objs.size ≠ s.heap.objs.size ∧ s1.heap.objs.size ∉ frs outer := ⟨I1.hok.fresh (Nat.le_refl _), Nat.ne_of_gt lt1, I1.nofs (Nat.le_refl _)⟩
    have I2 : Inv (gcxOf P w K mg base N qual scope f cdv Aw outer s H (fun _ _ _ => False) [(s1.heap.objs.size, go)]) [] (start N vs) H { s1 with gens := s1.gens.push (.fresh (.func body (envOfC qual scope s.heap.objs.size f cdv))), toks := tk2, heap := s1.heap.push go } := by
      refine Inv.pinnedG I1' fun p hp => ?_
      rw [List.append_nil] at hp
      rw [List.mem_singleton.mp hp]
      exact ⟨hpushed, young.1, young.2.1, young.2.2, hgd⟩
    refine ⟨gcxOf P w K mg base N qual scope f cdv Aw outer s H (fun _ _ _ => False) [(s1.heap.objs.size, go)], rfl, rfl, rfl, rfl, rfl, ⟨I2.ok, rfl, fun y c e => ?_⟩, ⟨go, List.mem_singleton.mpr rfl, hgen⟩, fun G s2 wk hG => ?_⟩
    · exact Nat.le_of_lt (x.above y c (PySem.mem_of_lookup e))
    have root : RootOk (gcxOf P w K mg base N qual scope f cdv Aw outer s H (fun _ _ _ => False) [(s1.heap.objs.size, go)]) := ⟨I2.ok, rfl, fun y c e => Nat.le_of_lt (x.above y c (PySem.mem_of_lookup e))⟩
    have I3 : Inv (XR (gcxOf P w K mg base N qual scope f cdv Aw outer s H (fun _ _ _ => False) [(s1.heap.objs.size, go)]) s H) [] (start N vs) H { s1 with gens := s1.gens.push (.fresh (.func body (envOfC qual scope s.heap.objs.size f cdv))), toks := tk2, heap := s1.heap.push go } :=
      ⟨⟨I2.ok.mod, I2.ok.kind, I2.ok.glob, I2.ok.blt, I2.ok.above, I2.ok.inj, I2.ok.has, I2.ok.cab, I2.ok.hd, I2.ok.frames, I2.ok.stk, I2.ok.exf, I2.ok.bs, I2.ok.bsz, I2.ok.noex, I2.ok.exfs, I2.ok.funs, I2.ok.frf⟩, I2.os, I2.bare, I2.base, I2.loc, I2.cell, I2.free, I2.freeC, I2.pin, I2.hok, I2.len⟩
    have hI : GIR (gcxOf P w K mg base N qual scope f cdv Aw outer s H (fun _ _ _ => False) [(s1.heap.objs.size, go)]) G s2 [] (start N vs) H s2 := ⟨H, hG, inv_root root.ok root.ex root.cells I3 wk⟩
    obtain ⟨t, ht, hq⟩ := hbody Aw outer s H vs yq fin [(s1.heap.objs.size, go)] (hrw.deeper _) hsp
    refine seg_func ?_
    refine ht.run G Aw [] _ sizeLine 0 s2 _ [] _ _ id id s2 (start N vs) H _ ⟨root, over_func, rfl, rfl, rfl⟩ (Nat.add_zero _) ⟨fun n ys s₀ s' fl hn hs => ?_⟩ hI hq
    cases fl with
    | next =>
      obtain ⟨σ', H', hI', hQ⟩ := hs
      exact seg_end (.ok (.ret .none)) (.inl ⟨.inl rfl, [], σ', H', hI', hQ⟩)
    | brk => obtain ⟨_, _, _, q⟩ := hs; exact False.elim q
    | cont => obtain ⟨_, _, _, q⟩ := hs; exact False.elim q
    | ret u =>
      obtain ⟨v, σ', H', hI', rv, ev, hQ⟩ := hs
      subst ev
      have eu : u = Value.none := rv
      subst eu
      exact seg_end (.ok (.ret .none)) (.inl ⟨.inl rfl, [], σ', H', hI', hQ⟩)
  exact main _ _ _ _ rfl rfl rfl fun h => Heap.get?_push_size _ rfl
end Sn
namespace Sn
open PySem PySem.Spec PyProof.Rows L2 GenW
section
variable {X : Cx} {pins : List (Addr × Obj)} {σ : L2.St} {H : Hp} {s : Shared} {E : Value → Shared → Prop}
theorem name_raw {i : Nat} {x : Str} {v : V} {pos : Pos} {Q : Value → Shared → Prop} (I : Inv X pins σ H s) (hN : X.N[i]? = some x) (hv : Vis X.env.scope x) (e : σ[i]? = some (some v)) (h : ∀ u, RelV v u → Q u s)
    (hd : (x == ("__debug__" : Str)) = false := by decide) (hcd : (x == ("__classdict__" : Str)) = false := by decide) : wpAny (model X.prog X.w) X.A (eval (.Name x pos) X.env) Q E s := by
  obtain ⟨m, hn, hl⟩ := I.loc
  obtain ⟨u, r, l⟩ := hl i x v hN e hv
  rcases l with ⟨hk, hm⟩ | ⟨hk, c, hc, hcell⟩
  · exact wpAny_Name (wpAny_loadName_local I.ok.kind hk hn hm (h u r)) hd
  · rcases hk with hk | hk
    · exact wpAny_Name (wpAny_loadName_cell I.ok.kind hk hc hcell (h u r)) hd
    · exact wpAny_Name (wpAny_loadName_free I.ok.kind hk hc hcell (h u r) hcd) hd
/-- l.append(x) -/
theorem append_raw {i f : Nat} {fn xn : Str} {S : Addr} {x : V} {xs : List V} {p1 p2 p3 p4 p5 : Pos} {Q : Flow → Shared → Prop} (I : Inv X pins σ H s) (hf : X.N[f]? = some fn) (hvf : Vis X.env.scope fn) (hi : X.N[i]? = some xn) (hvi : Vis X.env.scope xn) (ef : σ[f]? = some (some (.ref S))) (ei : σ[i]? = some (some x))
    (hH : H S = some (.lst xs)) (hz : xs.length < sizeLine) (h : ∀ h', (∀ b o, b ≠ S → s.heap.get? b = some o → h'.get? b = some o) → Inv X pins σ (upd H S (.lst (xs ++ [x]))) { s with heap := h' } → Q .next { s with heap := h' })
    (df : (fn == ("__debug__" : Str)) = false := by decide) (cf : (fn == ("__classdict__" : Str)) = false := by decide) (di : (xn == ("__debug__" : Str)) = false := by decide) (ci : (xn == ("__classdict__" : Str)) = false := by decide)
    (hbase : attributeBase (.Name fn p1) "append" X.env (eval (.Name fn p1) X.env) = eval (.Name fn p1) X.env := by rfl)
    (hfew : ((backTo p4 (starEach [.Name xn p3] X.env)).all (fun x => !x.1) && (backToKw p4 (keywordEach [] X.env)).all (fun x => x.1.isSome)
      && decide ([Expr.Name xn p3].length + ([] : List Keyword).length + (if ([] : List Keyword).isEmpty then 0 else 1) < 30)) = true := by rfl)
    (hline : (p2.endLine == p4.line) = true := by rfl) (hs : swapsWith (.Call (.Attribute (.Name fn p1) "append" p2) [.Name xn p3] [] p4) none p5.line X.env = pure false := by rfl) :
    wpAny (model X.prog X.w) X.A (exec (.Expr (.Call (.Attribute (.Name fn p1) "append" p2) [.Name xn p3] [] p4) p5) X.env) Q E s := by
  refine wpAny_Expr_any ?_ I.quiet hs
  refine wpAny_Call_method_late hbase hfew hline rfl (name_raw I hf hvf ef (fun u ru => ?_) df cf)
  cases ru
  obtain ⟨z, its, n, r, hl, e⟩ := I.lstM hH
  refine ⟨"list", "list.append", PySem.F.plainAttrs_list, PySem.F.slot_list_append, PySem.F.type_list_append, ⟨_, e, rfl⟩, fun a ea => ?_, ?_⟩
  · cases ea
    exact ⟨_, e, rfl⟩
  · have he1 : starEach [.Name xn p3] X.env = (false, eval (.Name xn p3) X.env) :: starEach [] X.env := rfl
    rw [he1]
    refine Calls.callWith_builtin (by rfl) (Calls.evalArgs_plain ?_)
    show wpAny _ _ (spliced ((false, eval (.Name xn p3) X.env) :: backTo p4 (starEach [] X.env))) _ _ s
    refine Calls.spliced_cons (name_raw I hi hvi ei (fun u ru => ?_) di ci)
    refine Calls.spliced_nil ?_
    refine call_meets F.slot_list_append ⟨_, e, rfl⟩ F.entry_list_append (F.args_list_append_2 _ _) (PySem.list_append S its.toArray n u (by rw [List.size_toArray]; omega)) ⟨e, ?_⟩
    have I2 := I.lset (t' := s.toks) (f := fun y => y.push u) (its' := its ++ [u]) hH e (by simp) (r.append (.cons ru .nil)) (by rw [List.length_append, List.length_singleton]; omega)
    exact h _ (fun b o hb q => (Heap.get?_update_other _ _ (Ne.symm hb)).trans q) I2
/-- if len(l) == n: break -/
theorem brk_raw {f m : Nat} {fn mn : Str} {S : Addr} {lim : Int} {xs : List V} {p6 p7 p8 p9 p10 p11 p12 : Pos} {Q : Flow → Shared → Prop} (I : Inv X pins σ H s) (hf : X.N[f]? = some fn) (hvf : Vis X.env.scope fn) (hm : X.N[m]? = some mn) (hvm : Vis X.env.scope mn) (ef : σ[f]? = some (some (.ref S))) (em : σ[m]? = some (some (.int lim)))
    (hg : Gl X "len") (hb : X.mg "len" = none) (hH : H S = some (.lst xs)) (h : ∀ tk, Q (if (xs.length : Int) = lim then .brk else .next) { s with toks := tk })
    (df : (fn == ("__debug__" : Str)) = false := by decide) (cf : (fn == ("__classdict__" : Str)) = false := by decide) (dm : (mn == ("__debug__" : Str)) = false := by decide) (cm : (mn == ("__classdict__" : Str)) = false := by decide) :
    wpAny (model X.prog X.w) X.A (exec (.If (.Compare (.Call (.Name "len" p6) [.Name fn p7] [] p8) [.Eq] [.Name mn p9] p10) [.Break p11] [] p12) X.env) Q E s := by
  have hl63 := line63
  obtain ⟨z, its, n, r, hl, e⟩ := I.lstM hH
  refine wpAny_If (wpAny_isTrue_Compare1 ?_ (by first | exact nobehind _ (by decide) (by decide) | rfl))
  refine wpAny_Call_Name_kw (ld_blt I hg hb (u := .builtin "len") (by decide +kernel) ?_)
  refine PyProof.Rows.callWith_builtin1 ?_ rfl rfl
  show wpAny _ _ (spliced ((false, eval (.Name fn p7) X.env) :: backTo p8 (starEach [] X.env))) _ _ s
  refine Calls.spliced_cons (name_raw I hf hvf ef (fun u ru => ?_) df cf)
  cases ru
  refine Calls.spliced_nil ?_
  have hil : s.heap.IsList S its.toArray := ⟨_, e, rfl, n, rfl⟩
  refine Calls.call_len_list hil (by rw [List.size_toArray]; omega) ?_
  have I2 : Inv X pins σ H { s with toks := s.toks + 1 + 1 } := I.tok _
  refine name_raw I2 hm hvm em (fun u ru => ?_) dm cm
  obtain ⟨t, rfl⟩ := ru
  refine eq_int ?_
  refine wpAny_truthy_bool ?_
  have hq := h (s.toks + 1 + 1)
  have el : ((its.toArray.size : Int) == lim) = decide ((xs.length : Int) = lim) := by
    rw [List.size_toArray, ← hl]
    rw [Bool.eq_iff_iff]
    simp
  rw [el]
  by_cases c : (xs.length : Int) = lim
  · rw [if_pos c] at hq
    rw [decide_eq_true c]
    exact wpAny_execs_cons (wpAny_Break hq)
  · rw [if_neg c] at hq
    rw [decide_eq_false c]
    exact wpAny_execs_nil hq
/-- x = v, in the namespace -/
theorem store_raw {M : Model} {A : Around} {i : Nat} {x : Str} {v : V} {u : Value} {Q : Unit → Shared → Prop} (I : Inv X pins σ H s) (hN : X.N.Nodup) (hi : X.N[i]? = some x) (hk : X.env.scope.names.lookup x = some .local) (r : RelV v u)
    (h : ∀ h' tk, Heap.SameBut X.env.locals s.heap h' → Inv X pins (σ.set i (some v)) H { s with heap := h', toks := tk } → Q () { s with heap := h', toks := tk }) : wpAny M A (storeName X.env x u) Q E s := by
  obtain ⟨m, hn, hl⟩ := id I.loc
  have hcls : (X.env.scope.kind == .class || (X.env.scope.kind == .module && X.env.locals != X.env.globals)) = false := by rw [I.ok.kind]; rfl
  have hiσ : i < σ.length := by rw [I.len]; exact (List.getElem?_eq_some_iff.mp hi).1
  have cne := I.cne
  have tracked : ∀ {a : Addr} {h' : Heap}, (∃ o, s.heap.get? a = some o ∧ H a = none) → Heap.SameBut a s.heap h' → HOk X.prog X.w H h' := fun {a h'} ha hs b ob e => by
    obtain ⟨_, _, hfree⟩ := ha
    refine (I.hok b ob e).stay (fun c w' hc q => (hs.2 c ?_).trans q) (fun _ q => q) fun _ _ q => q
    rintro rfl
    rcases hc with rfl | hc
    · rw [hfree] at e; cases e
    · rw [hfree] at hc; cases hc
  refine wpAny_storeName_local hk hn (fun h' hn' hs => ?_) hcls
  obtain ⟨oL, _, _, hoL, _⟩ := id hn
  refine h _ _ hs ⟨I.ok, I.os, I.bare, ⟨fun b o e n hb hx => ?_, fun b o e n hb hx => ?_, I.base.free, fun b o e hx => ?_, I.base.tups, I.base.frzs, I.base.tbls⟩, ⟨_, hn', fun j y v' e1 e2 e3 => ?_⟩, fun y c e => ?_, I.free, I.freeC, fun p hp => ?_, tracked ⟨oL, hoL, I.free⟩ hs, by simpa using I.len⟩
  · exact (hs.2 b (Nat.ne_of_lt (Nat.lt_of_lt_of_le (Heap.lt_size e) I.ok.above))).trans (I.base.keep b o e n hb hx)
  · obtain ⟨sl, e1⟩ := I.base.slot b o e n hb hx
    exact ⟨sl, (hs.2 b (Nat.ne_of_lt (Nat.lt_of_lt_of_le (Heap.lt_size e) I.ok.above))).trans e1⟩
  · obtain ⟨o', e1⟩ := I.base.there b o e hx
    exact ⟨o', (hs.2 b (Nat.ne_of_lt (Nat.lt_of_lt_of_le (Heap.lt_size e) I.ok.above))).trans e1⟩
  · by_cases hj : j = i
    · subst hj
      rw [hi] at e1; cases e1
      rw [List.getElem?_set_self hiσ] at e2
      cases e2
      exact ⟨u, r, .inl ⟨hk, by simp⟩⟩
    · rw [List.getElem?_set_ne (Ne.symm hj)] at e2
      obtain ⟨u', r', q⟩ := hl j y v' e1 e2 e3
      refine ⟨u', r', ?_⟩
      rcases q with ⟨k, e⟩ | ⟨k, c, e, z⟩
      · refine .inl ⟨k, ?_⟩
        have : y ≠ x := fun e => hj (nodup_ix hN e1 (e ▸ hi))
        simp [this, e]
      · exact .inr ⟨k, c, e, z.sameBut hs (cne y c e)⟩
  · obtain ⟨w', z⟩ := I.cell y c e
    exact ⟨w', z.sameBut hs (cne y c e)⟩
  · obtain ⟨e, n, ne, nf, d⟩ := I.pin p hp
    exact ⟨(hs.2 p.1 ne).trans e, n, ne, nf, d⟩
end
end Sn
namespace Sn
open PySem PySem.Spec PyProof.Rows L2 GenW
/-- an expression whose value is a generator that has not begun -/
abbrev TGenR := L2.St → Hp → YQ → (Hp → Prop) → Prop
structure PGenR (X : Cx) (k : Nat) (e : Expr) (tg : TGenR) : Prop where
  run : ∀ (pins : List (Addr × Obj)) (s : Shared) (σ : L2.St) (H : Hp) (yq : YQ) (fin : Hp → Prop), Inv X pins σ H s → tg σ H yq fin → wpAny (model X.prog X.w) X.A (eval e X.env)
    (fun u s' => ∃ H1 sc, Inv X pins σ H1 sc ∧ GMadeR X.prog X.w X.K X.mg X.base k X.stack H1 sc yq fin u s') X.xe s
section
variable {X : Cx} {pins : List (Addr × Obj)} {σ σ' : L2.St} {H H1 H2 J : Hp} {s sc s₀ s1 : Shared}
/-- the consumer's state behind a turn of the generator -/
theorem step_con {XG : Cx} {ip : List (Addr × Obj)} {σg : L2.St} (Ic : Inv X pins σ H sc) (eP : XG.prog = X.prog) (eW : XG.w = X.w) (eO : XG.outer = X.stack) (eS : XG.s_0 = sc) (hx : XG.ex = []) (IJ : Inv X pins σ' J s₀) (Ig : Inv (XR XG (cutS s₀ XG.s_0.heap.objs.size) J) ip σg H2 s1) : Inv X pins σ' H2 s1 := by
  have eF : XG.fs = frs X.stack := by show frs XG.outer = _; rw [eO]
  have nex : ∀ b, b ∉ XG.ex := fun b z => by rw [hx] at z; cases z
  have U := Ig.base
  have cut : ∀ {b : Addr} {o : Obj}, b < sc.heap.objs.size → s₀.heap.get? b = some o → (cutH s₀.heap XG.s_0.heap.objs.size).get? b = some o := fun {b o} hb e => by
    rw [eS, cutH_lt hb]; exact e
  have low : ∀ {b : Addr} {o : Obj}, s₀.heap.get? b = some o → b ∉ (List.range s₀.heap.objs.size).filter (fun b => decide (sc.heap.objs.size ≤ b)) → b < sc.heap.objs.size := fun {b o} e nb => by
    refine Decidable.byContradiction fun hb => nb ?_
    exact List.mem_filter.mpr ⟨List.mem_range.mpr (Heap.lt_size e), decide_eq_true (Nat.le_of_not_lt hb)⟩
  refine IJ.call' (ch := (List.range s₀.heap.objs.size).filter (fun b => decide (sc.heap.objs.size ≤ b))) Ig.os ⟨fun b o e n hb hc => ?_, fun b o e n hb hc => ?_, fun b o e n hc => ?_, fun b o e hc => ?_, U.tups, U.frzs, U.tbls⟩ ?_ Ig.bare fun b hb => ?_
  · exact U.keep b o (cut (low e hc) e) n (by show b ∉ XG.fs; rw [eF]; exact hb) (nex b)
  · exact U.slot b o (cut (low e hc) e) n (by show b ∈ XG.fs; rw [eF]; exact hb) (nex b)
  · exact U.free b o (cut (low e hc) e) n (nex b)
  · exact U.there b o (cut (low e hc) e) (nex b)
  · have h := Ig.hok
    have e1 : (XR XG (cutS s₀ XG.s_0.heap.objs.size) J).prog = X.prog := eP
    have e2 : (XR XG (cutS s₀ XG.s_0.heap.objs.size) J).w = X.w := eW
    rw [e1, e2] at h
    exact h
  · have hge : sc.heap.objs.size ≤ b := of_decide_eq_true (List.mem_filter.mp hb).2
    refine ⟨.inr (Nat.le_trans Ic.sz hge), Nat.ne_of_gt (Nat.lt_of_lt_of_le Ic.lt hge), fun x c e z => ?_, fun p hp z => ?_⟩
    · obtain ⟨v, o, ho, _⟩ := Ic.cell x c e
      rw [z] at ho
      exact absurd (Nat.lt_of_lt_of_le (Heap.lt_size ho) hge) (Nat.lt_irrefl _)
    · obtain ⟨h1, _⟩ := Ic.pin p hp
      rw [z] at h1
      exact absurd (Nat.lt_of_lt_of_le (Heap.lt_size h1) hge) (Nat.lt_irrefl _)
/-- what the consumer leaves to the generator -/
theorem woke_con {XG : Cx} {s2 : Shared} {H3 : Hp} (eP : XG.prog = X.prog) (eW : XG.w = X.w) (eB : XG.base = X.base) (eO : XG.outer = X.stack) (I : Inv X pins σ H3 s2) (os : s2.os = s1.os) (keep : ∀ b o, s1.heap.get? b = some o → H2 b = none → b ∉ frs X.stack → s2.heap.get? b = some o ∧ H3 b = none) : Woke XG s1 H2 s2 H3 where
  os := os
  bare := I.bare
  hok := by rw [eP, eW]; exact I.hok
  bs := by rw [eB]; exact I.bs
  funs := by rw [eB, eO]; exact I.env0.funs
  frf := fun b hb => I.env0.frf b (by rw [← eO]; exact hb)
  keep := fun b o e n hb => keep b o e n (by rw [← eO]; exact hb)
/-- what the consumer makes of an item: it goes into the list at S; there are lim of them at the most -/
def yqL (S : Addr) (lim : Int) (fin : Hp → Prop) : YQ := fun x H cont => ∃ xs, H S = some (.lst xs) ∧ xs.length < sizeLine ∧
  if (((xs ++ [x]).length : Nat) : Int) = lim then fin (upd H S (.lst (xs ++ [x]))) else cont (upd H S (.lst (xs ++ [x])))
def tForG (tg : TGenR) (i f m : Nat) : TS := fun D σ H => ∃ (S : Addr) (lim : Int), σ[f]? = some (some (.ref S)) ∧ σ[m]? = some (some (.int lim)) ∧
  tg σ H (yqL S lim fun H' => ∀ v, D.nx (σ.set i v) H') fun H' => ∀ v, D.nx (σ.set i v) H'
theorem set_self {σ : L2.St} {i : Nat} (hi : i < σ.length) : σ.set i ((σ[i]?).getD none) = σ := by
  rw [List.getElem?_eq_getElem hi]
  show σ.set i σ[i] = σ
  exact List.set_getElem_self hi
end
section
variable {X : Cx} {k i f m : Nat} {xn fn mn : Str} {iter : Expr} {tg : TGenR} {pt p1 p2 p3 p4 p5 p6 p7 p8 p9 p10 p11 p12 pos : Pos}
theorem ps_forG (hi : PGenR X k iter tg) (hr : Room (k + 1) X.A) (hst : X.stack = X.env :: X.outer) (hfr : X.env.frame = some X.env.locals) (hN : X.N.Nodup) (ni : X.N[i]? = some xn) (ki : X.env.scope.names.lookup xn = some .local) (nf : X.N[f]? = some fn) (vf : Vis X.env.scope fn) (nm : X.N[m]? = some mn) (vm : Vis X.env.scope mn) (hif : i ≠ f) (him : i ≠ m)
    (hg : Gl X "len") (hb : X.mg "len" = none)
    (df : (fn == ("__debug__" : Str)) = false := by decide) (cf : (fn == ("__classdict__" : Str)) = false := by decide) (di : (xn == ("__debug__" : Str)) = false := by decide) (ci : (xn == ("__classdict__" : Str)) = false := by decide) (dm : (mn == ("__debug__" : Str)) = false := by decide) (cm : (mn == ("__classdict__" : Str)) = false := by decide)
    (hbase : attributeBase (.Name fn p1) "append" X.env (eval (.Name fn p1) X.env) = eval (.Name fn p1) X.env := by rfl)
    (hfew : ((backTo p4 (starEach [.Name xn p3] X.env)).all (fun x => !x.1) && (backToKw p4 (keywordEach [] X.env)).all (fun x => x.1.isSome)
      && decide ([Expr.Name xn p3].length + ([] : List Keyword).length + (if ([] : List Keyword).isEmpty then 0 else 1) < 30)) = true := by rfl)
    (hline : (p2.endLine == p4.line) = true := by rfl) (hsw : swapsWith (.Call (.Attribute (.Name fn p1) "append" p2) [.Name xn p3] [] p4) none p5.line X.env = pure false := by rfl)
    (hs : ∀ x, foldedSetIterable iter X.env x = pure x := by intro _; rfl) :
    PS X (.For (.Name xn pt) iter [.Expr (.Call (.Attribute (.Name fn p1) "append" p2) [.Name xn p3] [] p4) p5, .If (.Compare (.Call (.Name "len" p6) [.Name fn p7] [] p8) [.Eq] [.Name mn p9] p10) [.Break p11] [] p12] [] pos) (tForG tg i f m) := by
  refine ⟨fun pins s σ H D I h => ?_⟩
  obtain ⟨S, lim, ef, em, h⟩ := h
  refine wpAny_For (thn (hi.run pins s σ H _ _ I h) fun u s1 hu => ?_) hs
  obtain ⟨H1, sc, Ic, a, g, c, rfl, ha1, ha2, hg0, hgs, hos, hbr, hkp, wake⟩ := hu
  have I1 : Inv X pins σ H1 s1 := Ic.call' (ch := []) hos (Un.kept hkp) (Ic.hok.kept hkp) hbr fun b z => by simp at z
  refine wpAny_pyIter_gen hg0 ?_
  have hr1 : Room k X.A.in1 := ⟨hr.hd, by have := hr.dp; show X.A.depth + 3 * k + 5 < _; omega, by have := hr.un; show X.A.units + 1 + 16 * k + 200 < _; omega⟩
  obtain ⟨XG, eP, eW, eB, eO, eS, root, ⟨go, hgo, hgen⟩, seg⟩ := wake X.A.in1 hr1 I1.ok.frames
  have hil : i < σ.length := by rw [I1.len]; exact (List.getElem?_eq_some_iff.mp ni).1
  have hL : X.env.locals ∈ frs X.stack := by
    rw [hst]
    exact List.mem_filterMap.mpr ⟨X.env, List.mem_cons_self, hfr⟩
  let fin : Hp → Prop := fun H' => ∀ v, D.nx (σ.set i v) H'
  let G : Shared → Hp → Prop := fun s₀ J => ∃ v, Inv X pins (σ.set i v) J s₀
  have genI : ∀ {v : Option V} {H' : Hp} {s' : Shared} {gs : GenState}, gs.bare = true → Inv X pins (σ.set i v) H' s' → Inv X pins (σ.set i v) H' (s'.setGen g gs) := fun {v H' s' gs} hb' I' =>
    I'.call' (ch := []) rfl (Un.kept fun _ _ e => e) I'.hok (allBare_setGen I'.bare hb') fun b z => by simp at z
  refine codeAny_forLoop_any (fun n s' => ∃ v H' gs, s'.gens[g]? = some gs ∧ s'.heap.IsGen a g ∧ a ≠ X.env.locals ∧ H' a = none ∧ Inv X pins (σ.set i v) H' s' ∧ gs.Goes (model X.prog X.w) X.A.in1 (REndR XG G fin) (GYR XG G (yqL S lim fin)) n (.send .none) (s'.setGen g .running)) ?_ sizeLine ?_
  · rintro n s' ⟨v, H', gs, hgs', hg', haL, haH, I', hgo'⟩
    have hgl : g < s'.gens.size := (Array.getElem?_eq_some_iff.mp hgs').1
    refine wpAny_gsz (n := g + 1) hgl (next_genG (A := X.A) hr.hd I'.nolimit hr.depth hg' hgs' hgo' (fun v1 s₁ gs' hbare hv => ?_) (fun s₁ hp h' hk => ?_) fun e s₁ he => False.elim he)
    · intro hsz
      obtain ⟨x, ip, σg, H2, cont, rv, ⟨J, ⟨v0, IJ⟩, Ig⟩, ⟨xs, hH, hz, hq⟩, wk⟩ := hv
      have I2 := genI (gs := gs') hbare (step_con Ic eP eW eO eS root.ex IJ Ig)
      obtain ⟨pin1, pin2, _, pin4, _⟩ := Ig.pin (a, go) (List.mem_append_left _ hgo)
      have hg1 : (s₁.setGen g gs').heap.IsGen a g := hgen _ pin1
      have aS : a ≠ S := fun z => by rw [z, hH] at pin2; cases pin2
      have hsz1 : g < s₁.gens.size := by
        have q : (s₁.setGen g gs').gens.size = s₁.gens.size := setGen_size _ _ _
        omega
      obtain ⟨og, nmg, qng, hog, hcg, hdg, hsg⟩ := id hg1
      refine go_of hog hcg hdg (by decide +kernel) ?_
      refine wpAny_assign_Name (store_raw I2 hN ni ki rv fun h2 tk2 sb I3 => ?_)
      rw [List.set_set] at I3
      have ef3 : (σ.set i (some x))[f]? = some (some (.ref S)) := by rw [List.getElem?_set_ne hif]; exact ef
      have em3 : (σ.set i (some x))[m]? = some (some (.int lim)) := by rw [List.getElem?_set_ne him]; exact em
      have ei3 : (σ.set i (some x))[i]? = some (some x) := List.getElem?_set_self hil
      refine wpAny_execs_cons (append_raw I3 nf vf ni (.inl ki) ef3 ei3 hH hz (fun h3 k3 I4 => ?_) df cf di ci hbase hfew hline hsw)
      refine wpAny_execs_cons (brk_raw I4 nf vf nm vm ef3 em3 hg hb upd_same (fun tk4 => ?_) df cf dm cm)
      have I5 : Inv X pins (σ.set i (some x)) (upd H2 S (.lst (xs ++ [x]))) { s₁.setGen g gs' with heap := h3, toks := tk4 } := I4.tok _
      have kept : ∀ b o, s₁.heap.get? b = some o → H2 b = none → b ∉ frs X.stack → h3.get? b = some o ∧ upd H2 S (.lst (xs ++ [x])) b = none := fun b o e n nb => by
        have bL : b ≠ X.env.locals := fun z => nb (by rw [z]; exact hL)
        have bS : b ≠ S := fun z => by rw [z, hH] at n; cases n
        exact ⟨k3 b o bS ((sb.2 b bL).trans e), by rw [upd_ne bS]; exact n⟩
      by_cases c : (((xs ++ [x]).length : Nat) : Int) = lim
      · rw [if_pos c] at hq ⊢
        exact ⟨_, _, I5, hq (some x)⟩
      · rw [if_neg c] at hq ⊢
        refine wpAny_execs_nil ?_
        have I6 := genI (gs := .running) rfl I5
        have wk2 := wk { ({ s₁.setGen g gs' with heap := h3, toks := tk4 } : Shared).setGen g .running with heap := h3 } _ (woke_con (s1 := s₁) (H2 := H2) eP eW eB eO I6 rfl kept) ⟨some x, I6⟩ hq
        have kp := kept a go pin1 pin2 (fun z => pin4 (by show a ∈ frs XG.outer; rw [eO]; exact z))
        · cases n with
          | zero => exact False.elim wk2
          | succ n =>
            exact ⟨n, Nat.lt_succ_self n, some x, _, gs', setGen_at (s := s₁) hsz1, hgen _ kp.1, haL, kp.2, I5, wk2⟩
    · intro hsz
      obtain ⟨ip, σg, H2, ⟨J, ⟨v0, IJ⟩, Ig⟩, hfin⟩ := hp
      have I2 := step_con Ic eP eW eO eS root.ex IJ Ig
      have I3 : Inv X pins (σ.set i v0) H2 { s₁.setGen g .finished with heap := h' } := I2.call' (ch := []) rfl (Un.kept hk) (I2.hok.kept hk) (allBare_setGen I2.bare rfl) fun b z => by simp at z
      exact wpAny_execs_nil ⟨_, H2, I3, hfin v0⟩
  · have I1' : Inv X pins (σ.set i ((σ[i]?).getD none)) H1 s1 := by rw [set_self hil]; exact I1
    have I2 := genI (gs := .running) rfl I1'
    refine ⟨(σ[i]?).getD none, H1, .fresh c, hgs, hg0, Ne.symm (Nat.ne_of_lt (Nat.lt_of_lt_of_le Ic.lt ha1)), Ic.hok.fresh ha1, I1', rfl, ?_⟩
    exact seg G (s1.setGen g .running) (woke_con eP eW eB eO I2 rfl fun b o e n _ => ⟨e, n⟩) ⟨_, I2⟩
end
section
variable {X : Cx} {k : Nat} {f C : Addr} {fd : FuncData} {ps : List Str} {sp : SpGR} {x m : Str} {p pos pos' apos : Pos} {o e : Expr} {es : List Expr} {ta : TE} {t : TA}
theorem run_gfnR {pins : List (Addr × Obj)} {σ : L2.St} {H : Hp} {s : Shared} {us : List Value} {vs : List V} {yq : YQ} {fin : Hp → Prop} {E1 : Value → Shared → Prop} (F : GFnR X.prog X.w X.K X.mg X.base k f fd ps sp) (hr : Room k X.A) (hb : Binds X.K fd ps [])
    (I : Inv X pins σ H s) (r : Vals vs us) (h : sp vs H yq fin) :
    wpAny (model X.prog X.w) X.A (call (.ref f) us) (fun u s' => ∃ H1 sc, Inv X pins σ H1 sc ∧ GMadeR X.prog X.w X.K X.mg X.base k X.stack H1 sc yq fin u s') E1 s := by
  have hl2 : us.length = ps.length := by rw [← r.length]; exact F.len _ _ _ _ h
  have hb2 := hb s us I.kIn
  rw [List.append_nil] at hb2
  refine wpAny_call (codeAny_mono (F.run X.A X.stack s H ⟨us, []⟩ us vs yq fin hr I.env0 (hb2 hl2) r h) fun r s' hq => ?_)
  cases r with
  | error e => exact False.elim hq
  | ok fl =>
    cases fl with
    | ret u => exact ⟨H, s, I, hq⟩
    | next => exact False.elim hq
    | brk => exact False.elim hq
    | cont => exact False.elim hq
def tMethGR (C : Addr) (m : Str) (sp : SpGR) (ta : TE) : TGenR := fun σ H yq fin => ta σ H fun x H1 => ∃ a dx fs, x = .ref a ∧ H1 a = some (.ins C dx fs) ∧ fs.lookup m = none ∧ sp [x] H1 yq fin
/-- o.m() -/
theorem pgenR_meth0 {pl : Sem Bool} (he : PE X o ta) (c : Cls X.K C) (hm : Meth X.K C m f) (F : GFnR X.prog X.w X.K X.mg X.base k f fd ps sp) (hr : Room k X.A) (hb : Binds X.K fd ps [])
    (ht : eval (.Call (.Attribute o m apos) [] [] pos') X.env = (do
      let ov ← eval o X.env
      standAt apos.atName
      let (f, first) ← holding [ov] (getMethod ov m pl)
      callWith pos' f first (backTo pos' (starEach [] X.env)) (backToKw pos' (keywordEach [] X.env))) := by rfl) :
    PGenR X k (.Call (.Attribute o m apos) [] [] pos') (tMethGR C m sp ta) := by
  refine ⟨fun pins s σ H yq fin I h => ?_⟩
  refine PySem.W.methodCall_KW (pl := pl) (thn (he.run pins s σ H _ I h) fun u s1 ⟨x, H1, I1, rx, a, dx, fs, ex, ea, l, q⟩ => ?_) ht
  subst ex
  obtain rfl : u = Value.ref a := rx
  refine getmeth_ok I1 ea c hm l ?_
  exact PySem.W.callWith_K0 (first := [.ref a]) I1.kIn hm.kp (run_gfnR (us := [.ref a]) (vs := [.ref a]) F hr hb I1 (.cons rfl .nil) q)
end
end Sn
namespace Sn
open PySem PySem.Spec PyProof.Rows L2
theorem mL.mut {K : PySem.W.Frag} {A : Amb} {W : Addr → Prop} {Hs H : Hp} {v : V} {d : D} (h : mL K A Hs W H v d) (t : isMut d = true) : ∃ a, v = .ref a ∧ Own K A W H a d ∧ ¬ W a ∧ ¬ A.U a ∧ Hs a = none := by
  rcases h with ⟨_, a, h⟩ | ⟨e, _⟩
  · exact ⟨a, h⟩
  · rw [t] at e; cases e
end Sn
namespace Sn
open PySem PySem.Spec PyProof.Rows L2 GenW
structure VNG where
  nx : Nat → En → Rs → Prop
  rt : Rs → Prop
  bk : Nat → En → Rs → Prop := fun _ _ _ => False
  ct : Nat → En → Rs → Prop := fun _ _ _ => False
/-- n: the place of the shared list, lim, what is wanted when it is full, the ends, how many were handed out -/
abbrev VTG := Nat → Int → (Rs → Prop) → VNG → Nat → En → Rs → Prop
def liftG (K : PySem.W.Frag) (S : Addr) (lim : Int) (fin : Hp → Prop) (B O O' : List Nat) (t : VTG) : TGR := fun D k σ H => ∃ (A : Amb) (W0 : Addr → Prop) (H0 : Hp) (W : Addr → Prop) (ρ : En) (r : Rs) (N : VNG) (n : Nat) (F : Rs → Prop), A.as[n]? = some S ∧ Env K A W0 H0 O W σ H ρ r ∧ t n lim F N k ρ r ∧
  (∀ k' ρ' r', N.nx k' ρ' r' → ∀ σ' H' W', Env K A W0 H0 O' W' σ' H' ρ' r' → StpV K W H W' H' → D.nx k' σ' H') ∧
  (∀ r', N.rt r' → ∀ k' H' W', Ext K A W0 H0 W' H' → Res K A W' H' r' → D.rt k' .non H') ∧
  (∀ k' ρ' r', N.bk k' ρ' r' → ∀ σ' H' W', Env K A W0 H0 B W' σ' H' ρ' r' → StpV K W H W' H' → D.bk k' σ' H') ∧
  (∀ k' ρ' r', N.ct k' ρ' r' → ∀ σ' H' W', Env K A W0 H0 B W' σ' H' ρ' r' → StpV K W H W' H' → D.ct k' σ' H') ∧
  ∀ r', F r' → ∀ H' W', Ext K A W0 H0 W' H' → Res K A W' H' r' → fin H'
def GV (X : Cx) (B O O' : List Nat) (st : Stmt) (t : VTG) : Prop := ∀ (S : Addr) (lim : Int) (fin : Hp → Prop), GSR X (yqL S lim fin) st (liftG X.K S lim fin B O O' t)
def GVs (X : Cx) (B O O' : List Nat) (sts : List Stmt) (t : VTG) : Prop := ∀ (S : Addr) (lim : Int) (fin : Hp → Prop), GSRs X (yqL S lim fin) sts (liftG X.K S lim fin B O O' t)
theorem GSR.imp {X : Cx} {yq : YQ} {st : Stmt} {t t' : TGR} (h : GSR X yq st t) (i : ∀ D k σ H, t' D k σ H → t D k σ H) : GSR X yq st t' := ⟨fun G A ip R n k s₀ c fs K J gd lv s σ H D g hn kk hI ht => h.run G A ip R n k s₀ c fs K J gd lv s σ H D g hn kk hI (i _ _ _ _ ht)⟩
theorem GSRs.imp {X : Cx} {yq : YQ} {sts : List Stmt} {t t' : TGR} (h : GSRs X yq sts t) (i : ∀ D k σ H, t' D k σ H → t D k σ H) : GSRs X yq sts t' := ⟨fun G A ip R n k s₀ c fs K J gd lv s σ H D g hn kk hI ht => h.run G A ip R n k s₀ c fs K J gd lv s σ H D g hn kk hI (i _ _ _ _ ht)⟩
def gOf1 (s : VTS) : VTG := fun _ _ _ N k ρ r => s { nx := N.nx k, rt := fun _ _ => False, bk := N.bk k, ct := N.ct k } ρ r
def gNil : VTG := fun _ _ _ N k ρ r => N.nx k ρ r
def gSeq (s t : VTG) : VTG := fun n lim F N k ρ r => s n lim F { N with nx := fun k' ρ' r' => t n lim F N k' ρ' r' } k ρ r
def gIf (c : VTT) (s t : VTG) : VTG := fun n lim F N k ρ r => c ρ r fun b r1 => if b = true then s n lim F N k ρ r1 else t n lim F N k ρ r1
def gWhile (c : VTT) (s : VTG) : VTG := fun n lim F N k ρ r => ∃ I : Nat → Nat → En → Rs → Prop, (∃ m, I m k ρ r) ∧ ∀ m k ρ r, I m k ρ r → c ρ r fun b r1 => if b = true then ∃ Nx : Nat → En → Rs → Prop, (∀ k' ρ' r', Nx k' ρ' r' → ∃ m', m' < m ∧ I m' k' ρ' r') ∧ s n lim F { nx := Nx, ct := Nx, bk := N.nx, rt := N.rt } k ρ r1 else N.nx k ρ r1
def gYield (v : VT) : VTG := fun n lim F N k ρ r => k < sizeLine ∧ v ρ r fun d r1 => ∃ ds, r1.cs[n]? = some (.list ds) ∧ ds.length < sizeLine ∧
  if (((ds ++ [d]).length : Nat) : Int) = lim then F { r1 with cs := r1.cs.set n (.list (ds ++ [d])) } else N.nx (k + 1) ρ { r1 with cs := r1.cs.set n (.list (ds ++ [d])) }
section
variable {X : Cx} {B O O' O1 O2 : List Nat} {st : Stmt} {rest sts els body : List Stmt} {s : VTS} {s1 s2 : VTG} {c : Expr} {c1 : VTT} {e : Expr} {v1 : VT} {pos yp : Pos}
theorem gv_of (h : ∀ t0 J, VS (XR X t0 J) mF B O O' st s) : GV X B O O' st (gOf1 s) := fun S lim fin => GSR.imp (gsr_ps (t := liftS X.K mF B O O' s) h) fun D k σ H q => by
  obtain ⟨A, W0, H0, W, ρ, r, N, n, F, hn, E, q, kn, kr, kb, kc, kF⟩ := q
  exact ⟨A, W0, H0, W, ρ, r, _, E, q, fun ρ' r' q' => kn k ρ' r' q', fun _ _ z => z.elim, fun ρ' r' q' => kb k ρ' r' q', fun ρ' r' q' => kc k ρ' r' q'⟩
theorem gvs_nil : GVs X B O O [] gNil := fun S lim fin => GSRs.imp gsrs_nil fun D k σ H q => by
  obtain ⟨A, W0, H0, W, ρ, r, N, n, F, hn, E, q, kn, _⟩ := q
  exact kn k ρ r q σ H W E .refl
theorem gvs_cons (h : GV X B O O1 st s1) (h2 : GVs X B O1 O2 rest s2) : GVs X B O O2 (st :: rest) (gSeq s1 s2) := fun S lim fin => GSRs.imp (gsrs_cons (h S lim fin) (h2 S lim fin)) fun D k σ H q => by
  obtain ⟨A, W0, H0, W, ρ, r, N, n, F, hn, E, q, kn, kr, kb, kc, kF⟩ := q
  refine ⟨A, W0, H0, W, ρ, r, _, n, F, hn, E, q, fun k' ρ' r' q' σ' H' W' E' x' => ?_, kr, kb, kc, kF⟩
  exact ⟨A, W0, H0, W', ρ', r', N, n, F, hn, E', q', fun k2 ρ2 r2 q2 σ2 H2 W2 E2 x2 => kn k2 ρ2 r2 q2 σ2 H2 W2 E2 (x'.trans x2), kr, fun k2 ρ2 r2 q2 σ2 H2 W2 E2 x2 => kb k2 ρ2 r2 q2 σ2 H2 W2 E2 (x'.trans x2), fun k2 ρ2 r2 q2 σ2 H2 W2 E2 x2 => kc k2 ρ2 r2 q2 σ2 H2 W2 E2 (x'.trans x2), kF⟩
theorem gvs_one (h : GV X B O O1 st s1) : GVs X B O O1 [st] (gSeq s1 gNil) := gvs_cons h gvs_nil
theorem gv_if (hc : ∀ t0 J, VTs (XR X t0 J) O c c1) (ha : GVs X B O O' sts s1) (hb : GVs X B O O' els s2) : GV X B O O' (.If c sts els pos) (gIf c1 s1 s2) := fun S lim fin => GSR.imp (gsr_if (tc := liftT X.K O c1) hc (ha S lim fin) (hb S lim fin)) fun D k σ H q => by
  obtain ⟨A, W0, H0, W, ρ, r, N, n, F, hn, Ev, q, kn, kr, kb, kc, kF⟩ := q
  refine ⟨A, W0, H0, W, ρ, r, _, Ev, q, fun t r1 q1 H1 W1 x1 E1 => ?_⟩
  have xs := x1.stp Ev.res.av
  cases t with
  | true => exact iteT ⟨A, W0, H0, W1, ρ, r1, N, n, F, hn, E1, q1, fun k' ρ' r' q' σ' H' W' E' x' => kn k' ρ' r' q' σ' H' W' E' (xs.trans x'), kr, fun k' ρ' r' q' σ' H' W' E' x' => kb k' ρ' r' q' σ' H' W' E' (xs.trans x'), fun k' ρ' r' q' σ' H' W' E' x' => kc k' ρ' r' q' σ' H' W' E' (xs.trans x'), kF⟩
  | false => exact iteF ⟨A, W0, H0, W1, ρ, r1, N, n, F, hn, E1, q1, fun k' ρ' r' q' σ' H' W' E' x' => kn k' ρ' r' q' σ' H' W' E' (xs.trans x'), kr, fun k' ρ' r' q' σ' H' W' E' x' => kb k' ρ' r' q' σ' H' W' E' (xs.trans x'), fun k' ρ' r' q' σ' H' W' E' x' => kc k' ρ' r' q' σ' H' W' E' (xs.trans x'), kF⟩
theorem gv_while (hc : ∀ t0 J, VTs (XR X t0 J) O c c1) (hb : GVs X O O O body s1) : GV X B O O (.While c body [] pos) (gWhile c1 s1) := fun S lim fin => GSR.imp (gsr_while (tc := liftT X.K O c1) hc (hb S lim fin)) fun D k σ H q => by
  obtain ⟨A, W0, H0, W, ρ, rs, N, n, F, hn, E, ⟨I, ⟨m, h0⟩, q⟩, kn, kr, kb, kc, kF⟩ := q
  refine ⟨fun m k' σ' H' => ∃ ρ' r' W', Env X.K A W0 H0 O W' σ' H' ρ' r' ∧ StpV X.K W H W' H' ∧ I m k' ρ' r', ⟨m, ρ, rs, W, E, .refl, h0⟩, ?_⟩
  rintro m k2 σ2 H2 ⟨ρ2, r2, W2, E2, s2, h2⟩
  refine ⟨A, W0, H0, W2, ρ2, r2, _, E2, q m k2 ρ2 r2 h2, fun b r3 q3 H3 W3 x3 E3 => ?_⟩
  have s3 := s2.trans (x3.stp E2.res.av)
  cases b with
  | true =>
    obtain ⟨Nx, hx, q3⟩ := q3
    refine iteT ⟨fun k' σ' H' => ∃ ρ' r' W', Env X.K A W0 H0 O W' σ' H' ρ' r' ∧ StpV X.K W H W' H' ∧ Nx k' ρ' r', ?_, ?_⟩
    · rintro k' σ' H' ⟨ρ', r', W', E', s', h'⟩
      obtain ⟨m', l, h'⟩ := hx k' ρ' r' h'
      exact ⟨m', l, ρ', r', W', E', s', h'⟩
    · exact ⟨A, W0, H0, W3, ρ2, r3, _, n, F, hn, E3, q3, fun k4 ρ4 r4 q4 σ4 H4 W4 E4 s4 => ⟨ρ4, r4, W4, E4, s3.trans s4, q4⟩, kr, fun k4 ρ4 r4 q4 σ4 H4 W4 E4 s4 => kn k4 ρ4 r4 q4 σ4 H4 W4 E4 (s3.trans s4), fun k4 ρ4 r4 q4 σ4 H4 W4 E4 s4 => ⟨ρ4, r4, W4, E4, s3.trans s4, q4⟩, kF⟩
  | false => exact iteF (kn k2 ρ2 r3 q3 σ2 H3 W3 E3 s3)
theorem gv_yield (he : ∀ t0 J, VE (XR X t0 J) O e v1) (hco : X.env.scope.isCoroutine = false := by rfl) (hi : interactive X.env = false := by rfl) : GV X B O O (.Expr (.Yield (some e) yp) pos) (gYield v1) := fun S lim fin => GSR.imp (gsr_yield (te := liftM X.K O mF v1) he hco hi) fun D k σ H q => by
  obtain ⟨A, W0, H0, W, ρ, r, N, n, F, hn, E, ⟨hk, q⟩, kn, kr, kb, kc, kF⟩ := q
  refine ⟨hk, A, W0, H0, W, ρ, r, _, E, q, fun d r1 q1 u H1 W1 x1 E1 m1 => ?_⟩
  obtain ⟨ds, hc, hl, q1⟩ := q1
  have ow := (E1.res.ce n S _ hn hc).ofL
  cases ow with
  | lst ha hx =>
    rename_i xs
    have su : S ≠ A.s ∨ A.sk = false := by
      cases e : A.sk with
      | false => exact .inr rfl
      | true => exact .inl fun z => E1.res.na.2.2.2 e (by rw [← z]; exact List.mem_of_getElem? hn)
    refine ⟨xs, ha, by rw [hx.len]; exact hl, ?_⟩
    have x3 := ext_cellL (ys := xs ++ [u]) E1.res hn ha
    have R3 := res_cellL E1.res hn ha su (hx.app (.cons m1 .nil))
    have el : (xs ++ [u]).length = (ds ++ [d]).length := by rw [List.length_append, List.length_append, hx.len] <;> rfl
    rw [el]
    by_cases c : (((ds ++ [d]).length : Nat) : Int) = lim
    · rw [if_pos c] at q1 ⊢
      exact kF _ q1 _ W1 (E1.bs.trans x3) R3
    · rw [if_neg c] at q1 ⊢
      exact kn _ _ _ q1 σ _ W1 (E1.ext x3 R3) ((x1.trans x3).stp E.res.av)
end
abbrev VFG := List D → Rs → Nat → Int → (Rs → Prop) → Prop
def spGV (K : PySem.W.Frag) (bs : List Bool) (vf : VFG) : SpGR := fun vs H yq fin => ∃ (A : Amb) (W : Addr → Prop) (ds : List D) (r : Rs) (n : Nat) (S : Addr) (lim : Int) (F : Rs → Prop), A.as[n]? = some S ∧ Res K A W H r ∧ AllR K A W H bs vs ds ∧ vf ds r n lim F ∧ yq = yqL S lim fin ∧
  ∀ r', F r' → ∀ H' W', Ext K A W H W' H' → Res K A W' H' r' → fin H'
section
variable {P : Program} {w : World} {K : PySem.W.Frag} {mg : Str → Option Value} {base : Heap} {x qual : Str} {st : Stmt} {f : Addr} {fd : FuncData} {N ps : List Str} {k : Nat} {vf : VFG} {vts : VTG} {O O' : List Nat} {bs : List Bool}
theorem okGen (F : Fun K x qual st f fd) (S : GScope N ps (defScope st)) (hl : ∀ ds r n lim F, vf ds r n lim F → ds.length = ps.length) (ho : RoOk O bs)
    (hb : ∀ (cdv : Value) (A : Around) (outer : List PySem.Env) (s : Shared) (H : Hp) (pn : List (Addr × Obj)), Room k (A.deeper (envOfC qual (defScope st) s.heap.objs.size f cdv)) → GVs (gcxOf P w K mg base N qual (defScope st) f cdv A outer s H (fun _ _ _ => False) pn) [] O O' (defBody st) vts)
    (law : ∀ ds r n lim F, vf ds r n lim F → vts n lim F { nx := fun _ _ r' => F r', rt := F } 0 (startV N ds) r) : GFnR P w K mg base (k + 1) f fd ps (spGV K bs vf) := by
  obtain ⟨oc, od, kV, dc, pm, an, cdv, ct, osl, rfl, lk, hcd⟩ := F.ex
  refine gfnR_of lk hcd S (fun vs H yq fin h => ?_) fun A outer s H vs yq fin pn hr h => ?_
  · obtain ⟨A, W, ds, r, n, S, lim, F, hn, R, hv, q, _⟩ := h
    rw [hv.len.1]
    exact hl _ _ _ _ _ q
  · obtain ⟨A1, W, ds, r, n, S0, lim, F, hn, R, hv, q, rfl, kF⟩ := h
    refine ⟨_, hb cdv A outer s H pn hr S0 lim fin, ?_⟩
    have l := A1.like []
    refine ⟨A1.reb [], W, H, W, startV N ds, r, _, n, F, by rw [l.as]; exact hn, env_startR (R.reb l) (hv.reb l) rfl ho, law _ _ _ _ _ q, fun k' ρ' r' q' σ' H' W' E' _ => kF r' q' H' W' (E'.bs.reb l.sym) (E'.res.reb l.sym), fun r' q' k' H' W' x' R' => ⟨rfl, kF r' q' H' W' (x'.reb l.sym) (R'.reb l.sym)⟩, fun _ _ _ z => z.elim, fun _ _ _ z => z.elim, fun r' q' H' W' x' R' => kF r' q' H' W' (x'.reb l.sym) (R'.reb l.sym)⟩
end
section
variable {K : PySem.W.Frag} {A : Amb} {W0 W : Addr → Prop} {H0 H : Hp} {O O1 : List Nat} {σ : L2.St} {ρ : En} {r : Rs} {a : Addr} {n f : Nat} {ds : List Sn.D}
/-- the last cell, a list, is an owned name's again -/
theorem Env.uncelO (E : Env K (A.cel a) W0 H0 O1 W σ H ρ r) (ha : H0 a = none) (hn : A.as.length = n) (hσ : σ[f]? = some (some (.ref a))) (e : O.filter (· ≠ f) = O1) (hf : f ∈ O) (nr : Rep O f) (hu : ¬ A.U a) (hc : r.cs[n]? = some (.list ds)) (hcf : cfrA n ds = true)
    (hv : ∀ (i : Nat) (d : Sn.D), i ≠ f → ρ[i]? = some (some d) → cfr n d = true) (hcs : cfrA n (r.cs.take n) = true) : Env K A W0 H0 O W σ H (ρ.set f (some (.list ds))) { r with cs := r.cs.take n } := by
  subst e
  have hfl : f < ρ.length := by rw [← E.len]; exact (List.getElem?_eq_some_iff.mp hσ).1
  have asn : (A.cel a).as[n]? = some a := by
    show (A.as ++ [a])[n]? = some a
    rw [← hn, List.getElem?_append_right (Nat.le_refl _), Nat.sub_self]
    rfl
  have ua : (A.cel a).U a := Amb.celU.mpr (.inr rfl)
  have h3 : ∀ (m : Nat) (b : Addr), m < n → (A.cel a).as[m]? = some b → A.as[m]? = some b := fun m b hm h => by
    have h : (A.as ++ [a])[m]? = some b := h
    rwa [List.getElem?_append_left (by omega)] at h
  have ow := Own.cut (A := A.cel a) (B := A) rfl rfl h3 ((E.res.ce n a _ asn hc).ofL) (by simpa [cfr] using hcf)
  have nw : ¬ W a := fun z => E.res.av a z ua
  have nrO : Rep (O.filter (· ≠ f)) f := ⟨fun z => nr.1 (List.mem_filter.mp z).1, fun z => nr.2.1 (List.mem_filter.mp z).1, nr.2.2⟩
  have E1 := (E.forget f nrO).uncel ha hn (fun i d h => by
    by_cases q : i = f
    · subst q
      rw [List.getElem?_set_self hfl] at h
      cases h
    · rw [List.getElem?_set_ne (Ne.symm q)] at h
      exact hv i d q h) hcs
  have h1 : ∀ j, j ∈ O ↔ j = f ∨ j ∈ O.filter (· ≠ f) := fun j => by
    rw [List.mem_filter]
    constructor
    · intro h
      by_cases q : j = f
      · exact .inl q
      · exact .inr ⟨h, by simpa using q⟩
    · rintro (h | h)
      · rw [h]; exact hf
      · exact h.1
  have E2 := (E1.drop f none nrO).addO hf nr h1
  have E3 := E2.setO (i := f) (a := a) (d := .list ds) hf nr ow nw hu ha (fun j e z1 z2 z3 => by
    have jl : j ≠ f := fun y => by
      subst y
      rw [List.getElem?_set_self (by rw [List.length_set]; exact hfl)] at z1
      cases z1
    rw [List.getElem?_set_ne (Ne.symm jl), List.getElem?_set_ne (Ne.symm jl)] at z1
    rw [List.getElem?_set_ne (Ne.symm jl)] at z3
    have hj : Fre (O.filter (· ≠ f)) j := ⟨((h1 j).mp z2.1).resolve_left jl, fun y => z2.2 (List.mem_filter.mp y).1⟩
    obtain ⟨b, g1, _, _, g4, _⟩ := E.own j e z1 hj
    rw [g1] at z3
    cases z3
    exact g4 ua)
  rw [List.set_set, List.set_set, List.set_set] at E3
  have es : σ.set f (some (.ref a)) = σ := by
    have hl := (List.getElem?_eq_some_iff.mp hσ).1
    have h := set_self (σ := σ) hl
    rw [hσ] at h
    exact h
  rw [es] at E3
  exact E3
end
/-- for x in o.m(): l.append(x); if len(l) == lim: break; x's data are forgotten behind it -/
def vForG (i f m : Nat) (C : Addr) (mn : Str) (v0 : VT) (vf : VFG) : VTS := fun N ρ r => ∃ (ds0 : List D) (lim : Int), ρ[f]? = some (some (.list ds0)) ∧ ρ[m]? = some (some (.int lim)) ∧
  v0 (ρ.set f (some (dCell r.cs.length))) { r with cs := r.cs ++ [.list ds0] } fun d r1 => ∃ fs, d = dIns C fs ∧ fs.lookup mn = none ∧ vf [d] r1 r.cs.length lim fun r2 =>
    ∃ ds', r2.cs[r.cs.length]? = some (.list ds') ∧ cfrA r.cs.length ds' = true ∧ allCf r.cs.length ((ρ.set f none).set i none) = true ∧ cfrA r.cs.length (r2.cs.take r.cs.length) = true ∧ N.nx ((ρ.set i none).set f (some (.list ds'))) { r2 with cs := r2.cs.take r.cs.length }
section
variable {X : Cx} {M : Mode} {B O O1 : List Nat} {k i f m : Nat} {xn fn ln mt : Str} {o : Expr} {C g : Addr} {fd : FuncData} {ps : List Str} {vf : VFG} {v0 : VT} {bs : List Bool} {pt p1 p2 p3 p4 p5 p6 p7 p8 p9 p10 p11 p12 pos apos pos' : Pos}
theorem vs_forG {pl : Sem Bool} (c : Cls X.K C) (hm : Meth X.K C mt g) (F : GFnR X.prog X.w X.K X.mg X.base k g fd ps (spGV X.K [true] vf)) (hr : Room (k + 1) X.A) (hbn : Binds X.K fd ps []) (ho : VB X O1 o v0) (e : O.filter (· ≠ f) = O1 := by rfl) (hf : Fre O f := by decide) (nrf : Rep O f := by decide) (ni' : i ∉ O := by decide) (nri : Rep O1 i := by decide)
    (hst : X.stack = X.env :: X.outer := by rfl) (hfr : X.env.frame = some X.env.locals := by rfl) (hN : X.N.Nodup) (ni : X.N[i]? = some xn) (ki : X.env.scope.names.lookup xn = some .local) (nf : X.N[f]? = some fn) (vf' : Vis X.env.scope fn) (nm : X.N[m]? = some ln) (vm : Vis X.env.scope ln) (hif : i ≠ f) (him : i ≠ m) (hmf : m ≠ f) (nmO : m ∉ O)
    (hg : Gl X "len") (hb : X.mg "len" = none)
    (df : (fn == ("__debug__" : Str)) = false := by decide) (cf : (fn == ("__classdict__" : Str)) = false := by decide) (di : (xn == ("__debug__" : Str)) = false := by decide) (ci : (xn == ("__classdict__" : Str)) = false := by decide) (dm : (ln == ("__debug__" : Str)) = false := by decide) (cm : (ln == ("__classdict__" : Str)) = false := by decide)
    (hbase : attributeBase (.Name fn p1) "append" X.env (eval (.Name fn p1) X.env) = eval (.Name fn p1) X.env := by rfl)
    (hfew : ((backTo p4 (starEach [.Name xn p3] X.env)).all (fun x => !x.1) && (backToKw p4 (keywordEach [] X.env)).all (fun x => x.1.isSome)
      && decide ([Expr.Name xn p3].length + ([] : List Keyword).length + (if ([] : List Keyword).isEmpty then 0 else 1) < 30)) = true := by rfl)
    (hline : (p2.endLine == p4.line) = true := by rfl) (hsw : swapsWith (.Call (.Attribute (.Name fn p1) "append" p2) [.Name xn p3] [] p4) none p5.line X.env = pure false := by rfl)
    (ht : eval (.Call (.Attribute o mt apos) [] [] pos') X.env = (do
      let ov ← eval o X.env
      standAt apos.atName
      let (f, first) ← holding [ov] (getMethod ov mt pl)
      callWith pos' f first (backTo pos' (starEach [] X.env)) (backToKw pos' (keywordEach [] X.env))) := by rfl)
    (hs : ∀ x, foldedSetIterable (.Call (.Attribute o mt apos) [] [] pos') X.env x = pure x := by intro _; rfl) :
    VS X M B O O (.For (.Name xn pt) (.Call (.Attribute o mt apos) [] [] pos') [.Expr (.Call (.Attribute (.Name fn p1) "append" p2) [.Name xn p3] [] p4) p5, .If (.Compare (.Call (.Name "len" p6) [.Name fn p7] [] p8) [.Eq] [.Name ln p9] p10) [.Break p11] [] p12] [] pos) (vForG i f m C mt v0 vf) :=
  PS.imp (ps_forG (pgenR_meth0 ho c hm F (hr.mono (Nat.le_succ k)) hbn ht) hr hst hfr hN ni ki nf vf' nm vm hif him hg hb df cf di ci dm cm hbase hfew hline hsw hs) fun D σ H q => by
  subst e
  obtain ⟨A, W0, H0, W, ρ, r, N, E, ⟨ds0, lim, hdf, hdm, q⟩, kn, kr, kb, kc⟩ := q
  obtain ⟨a0, s1, ow0, nw0, nu0, h00⟩ := E.own f _ hdf hf
  obtain ⟨vm', sm, dwm⟩ := E.var m _ hdm nmO
  have evm : vm' = .int lim := by
    have dwm : Dw X.K A W H vm' (.int lim) := dwm
    cases dwm
    rfl
  subst evm
  obtain ⟨a, ha, E1⟩ := E.cel f nrf hf.1 hdf
  have le := E.res.le
  have hfl : f < ρ.length := (List.getElem?_eq_some_iff.mp hdf).1
  have sa : σ[f]? = some (some (.ref a)) ∧ (A.cel a).as[r.cs.length]? = some a := by
    have asn : (A.cel a).as[r.cs.length]? = some a := by
      show (A.as ++ [a])[r.cs.length]? = some a
      rw [← le, List.getElem?_append_right (Nat.le_refl _), Nat.sub_self]
      rfl
    obtain ⟨v, h1, h2⟩ := E1.var f (dCell r.cs.length) (List.getElem?_set_self hfl) (by simp)
    obtain ⟨b, rfl, hb2⟩ := Dw.cellIs h2
    rw [asn] at hb2
    cases hb2
    exact ⟨h1, asn⟩
  obtain ⟨sa1, asn⟩ := sa
  have ea : a0 = a := by
    rw [s1] at sa1
    cases sa1
    rfl
  subst ea
  refine ⟨a0, lim, sa1, sm, A.cel a0, W0, H0, W, _, _, _, E1, q, fun d r1 q1 v H1 W1 x1 E2 m1 => ?_⟩
  obtain ⟨fs, ed, hl, q1⟩ := q1
  obtain ⟨b, dx, xs, ev, hb1, hfx⟩ := m1.insD ed
  subst ev
  refine ⟨b, dx, xs, rfl, hb1, hfx.look.1 hl, A.cel a0, W1, [d], r1, r.cs.length, a0, lim, _, asn, E2.res, .look m1.any .nil, q1, rfl, fun r2 q2 H' W' x2 R2 w => ?_⟩
  obtain ⟨ds', hc', hcf, hal, hcs, q2⟩ := q2
  have E3 := E2.ext x2 R2
  have nriF : Rep (O.filter (· ≠ f)) i := nri
  have E4 := E3.drop i w nriF
  have sf4 : (σ.set i w)[f]? = some (some (.ref a0)) := by rw [List.getElem?_set_ne hif]; exact sa1
  have E5 := E4.uncelO ha le sf4 rfl hf.1 nrf nu0 hc' hcf (fun j e2 jf h => by
    refine allCf_at hal j e2 ?_
    by_cases ji : j = i
    · subst ji
      rw [List.getElem?_set_self (by rw [List.length_set]; exact Nat.lt_of_lt_of_le (Nat.lt_of_lt_of_le (by
        have := (List.getElem?_eq_some_iff.mp h).1
        simpa using this) (Nat.le_refl _)) (Nat.le_refl _))] at h
      cases h
    · rw [List.getElem?_set_ne (Ne.symm ji)] at h ⊢
      rw [List.getElem?_set_ne (Ne.symm jf)] at h ⊢
      exact h) hcs
  refine kn _ _ q2 _ H' W' ?_ ?_
  · have e2 : (((ρ.set f (some (dCell r.cs.length))).set i none).set f (some (.list ds'))) = (ρ.set i none).set f (some (.list ds')) := by
      rw [List.set_comm _ _ hif.symm, List.set_set]
    rw [e2] at E5
    exact E5
  · exact (x1.trans x2).stp E1.res.av
end
end Sn
namespace Sn
open PySem PySem.Spec PyProof.Rows L2 TL GenW
theorem ll_K43c_0 : ("" : Str).length = 0 := by decide +kernel
local macro_rules | `(tactic| infer_instance) => `(tactic| simp only [ty_tt, ty_ts, ty_ti, ty_tl, ty_ss, ty_st])
local macro_rules | `(tactic| infer_instance) => `(tactic| assumption)
local macro_rules | `(tactic| infer_instance) => `(tactic| dsimp only [List.set, wipeE])
local macro_rules | `(tactic| infer_instance) => `(tactic| ((with_reducible refine i_pg ?_ ?_); · assumption))
local macro_rules | `(tactic| infer_instance) => `(tactic| ((with_reducible refine i_askW ?_ ?_); · assumption))
local macro_rules | `(tactic| infer_instance) => `(tactic| ((with_reducible refine i_askN ?_ ?_); · assumption))
local macro_rules | `(tactic| infer_instance) => `(tactic| ((with_reducible refine i_okT ?_ ?_); · assumption))
local macro_rules | `(tactic| infer_instance) => `(tactic| ((with_reducible refine i_cStrF ?_ ?_); · decide +kernel))
local macro_rules | `(tactic| infer_instance) => `(tactic| ((with_reducible refine i_cStrT ?_ ?_); · rfl))
local macro_rules | `(tactic| infer_instance) => `(tactic| ((with_reducible refine i_cGF ?_ ?_); · rfl))
local macro_rules | `(tactic| infer_instance) => `(tactic| ((with_reducible refine i_cGT ?_ ?_); · rfl))
local macro_rules | `(tactic| infer_instance) => `(tactic| ((with_reducible refine i_cIntF ?_ ?_); · rfl))
local macro_rules | `(tactic| infer_instance) => `(tactic| ((with_reducible refine i_cIntT ?_ ?_); · rfl))
local macro_rules | `(tactic| infer_instance) => `(tactic| ((with_reducible apply i_appPop); (focus rfl); (focus rfl)))
local macro_rules | `(tactic| infer_instance) => `(tactic| ((with_reducible apply i_insert); · rfl))
local macro_rules | `(tactic| infer_instance) => `(tactic| ((with_reducible refine i_look2F ?_ ?_); · decide +kernel))
local macro_rules | `(tactic| infer_instance) => `(tactic| ((with_reducible refine i_look2T ?_ ?_); · rfl))
local macro_rules | `(tactic| infer_instance) => `(tactic| ((with_reducible refine i_lookF ?_ ?_); · decide +kernel))
local macro_rules | `(tactic| infer_instance) => `(tactic| ((with_reducible refine i_lookT ?_ ?_); · rfl))
local macro_rules | `(tactic| infer_instance) => `(tactic| ((with_reducible refine i_exdict ?_ ?_); · rfl))
local macro_rules | `(tactic| infer_instance) => `(tactic| ((with_reducible refine i_dget2 ?_ ?_); · rfl))
local macro_rules | `(tactic| infer_instance) => `(tactic| ((with_reducible refine i_dget ?_ ?_); · rfl))
local macro_rules | `(tactic| infer_instance) => `(tactic| ((with_reducible refine i_dispQ ?_ ?_); · decide +kernel))
local macro_rules | `(tactic| infer_instance) => `(tactic| ((with_reducible refine i_le ?_ ?_); · (simp only [List.length_append, List.length_map, List.length_replicate, List.length_cons, List.length_nil, sizeLine_eq]; omega)))
local macro_rules | `(tactic| infer_instance) => `(tactic| ((with_reducible refine i_lt ?_ ?_); · (simp only [List.length_append, List.length_map, List.length_replicate, List.length_cons, List.length_nil, sizeLine_eq]; omega)))
local macro_rules | `(tactic| infer_instance) => `(tactic| ((with_reducible refine i_addL ?_ ?_); · (simp only [List.length_append, List.length_map, List.length_replicate, List.length_cons, List.length_nil, sizeLine_eq]; omega)))
local macro_rules | `(tactic| infer_instance) => `(tactic| ((with_reducible refine i_addS ?_ ?_); · (simp only [len_app, sizeLine_eq, ll_emp, ll_K43c_0]; omega)))
local macro_rules | `(tactic| infer_instance) => `(tactic| ((with_reducible refine i_fmtS ?_ ?_); · (simp only [len_app, sizeLine_eq, ll_emp, ll_K43c_0]; omega)))
local macro_rules | `(tactic| infer_instance) => `(tactic| ((with_reducible refine i_le ?_ ?_); · (simp only [len_app, sizeLine_eq, ll_emp, ll_K43c_0]; omega)))
local macro_rules | `(tactic| infer_instance) => `(tactic| ((with_reducible apply i_ty); · rfl))
local macro_rules | `(tactic| infer_instance) => `(tactic| ((with_reducible refine i_ninTf ?_ ?_ ?_); (focus rfl); (focus (decide +kernel))))
local macro_rules | `(tactic| infer_instance) => `(tactic| ((with_reducible refine i_ninTt ?_ ?_ ?_); (focus rfl); (focus (decide +kernel))))
local macro_rules | `(tactic| infer_instance) => `(tactic| ((with_reducible refine i_inLf ?_ ?_ ?_); (focus rfl); (focus (decide +kernel))))
local macro_rules | `(tactic| infer_instance) => `(tactic| ((with_reducible refine i_inLt ?_ ?_ ?_); (focus rfl); (focus (decide +kernel))))
local macro_rules | `(tactic| infer_instance) => `(tactic| ((with_reducible refine i_inTf ?_ ?_ ?_); (focus rfl); (focus (decide +kernel))))
local macro_rules | `(tactic| infer_instance) => `(tactic| ((with_reducible refine i_inTt ?_ ?_ ?_); (focus rfl); (focus (decide +kernel))))
local macro_rules | `(tactic| infer_instance) => `(tactic| ((with_reducible apply i_extend); · rfl))
local macro_rules | `(tactic| infer_instance) => `(tactic| ((with_reducible apply i_append); · rfl))
local macro_rules | `(tactic| infer_instance) => `(tactic| ((with_reducible refine i_notNf ?_ ?_); · rfl))
local macro_rules | `(tactic| infer_instance) => `(tactic| ((with_reducible refine i_notNt ?_ ?_); · rfl))
local macro_rules | `(tactic| infer_instance) => `(tactic| ((with_reducible refine i_isNf ?_ ?_); · rfl))
local macro_rules | `(tactic| infer_instance) => `(tactic| ((with_reducible refine i_isNt ?_ ?_); · rfl))
local macro_rules | `(tactic| infer_instance) => `(tactic| ((with_reducible apply i_ixL); · rfl))
local macro_rules | `(tactic| infer_instance) => `(tactic| ((with_reducible apply i_ixT); · rfl))
local macro_rules | `(tactic| infer_instance) => `(tactic| ((with_reducible refine i_neF ?_ ?_); · decide +kernel))
local macro_rules | `(tactic| infer_instance) => `(tactic| ((with_reducible refine i_neT ?_ ?_); · rfl))
local macro_rules | `(tactic| infer_instance) => `(tactic| ((with_reducible refine i_neF ?_ ?_); · assumption))
local macro_rules | `(tactic| infer_instance) => `(tactic| ((with_reducible refine i_eqF ?_ ?_); · assumption))
local macro_rules | `(tactic| infer_instance) => `(tactic| ((with_reducible refine i_eqF ?_ ?_); · decide +kernel))
local macro_rules | `(tactic| infer_instance) => `(tactic| ((with_reducible refine i_eqT ?_ ?_); · rfl))
local macro_rules | `(tactic| infer_instance) => `(tactic| ((with_reducible refine i_dNF ?_ ?_); (focus first | decide | omega | rfl | (simp only [List.length_cons, List.length_nil]; omega))))
local macro_rules | `(tactic| infer_instance) => `(tactic| ((with_reducible refine i_dNT ?_ ?_); (focus first | decide | omega | rfl | (simp only [List.length_cons, List.length_nil]; omega))))
local macro_rules | `(tactic| infer_instance) => `(tactic| ((with_reducible refine i_dF ?_ ?_); (focus first | decide | omega | rfl | (simp only [List.length_cons, List.length_nil]; omega))))
local macro_rules | `(tactic| infer_instance) => `(tactic| ((with_reducible refine i_dT ?_ ?_); (focus first | decide | omega | rfl | (simp only [List.length_cons, List.length_nil]; omega))))
local macro_rules | `(tactic| infer_instance) => `(tactic| ((with_reducible apply i_var); · rfl))
local macro_rules | `(tactic| infer_instance) => `(tactic| ((with_reducible refine i_fs ?_ ?_); (focus first | decide | (simp only [List.length_cons, List.length_nil]; omega))))
local macro_rules | `(tactic| infer_instance) => `(tactic| ((with_reducible apply i_exLk); · rfl))
local macro_rules | `(tactic| infer_instance) => `(tactic| ((with_reducible apply i_exE); · rfl))
local macro_rules | `(tactic| infer_instance) => `(tactic| ((with_reducible refine i_dinK ?_ ?_); · rfl))
local macro_rules | `(tactic| infer_instance) => `(tactic| with_reducible refine i_exL1 ?_)
local macro_rules | `(tactic| infer_instance) => `(tactic| ((with_reducible apply i_fld); · rfl))
local macro_rules | `(tactic| infer_instance) => `(tactic| with_reducible refine i_exI ?_)
local macro_rules | `(tactic| infer_instance) => `(tactic| ((with_reducible apply i_exD); · rfl))
local macro_rules | `(tactic| infer_instance) => `(tactic| ((with_reducible apply i_exK); · rfl))
local macro_rules | `(tactic| infer_instance) => `(tactic| ((with_reducible apply i_exF); · rfl))
local macro_rules | `(tactic| infer_instance) => `(tactic| (with_reducible refine St.go ?_))
section
variable {n : Nat} {lim : Int} {F : Rs → Prop} {N : VNG} {k : Nat} {ρ : En} {r : Rs}
theorem i_gSeq {s t : VTG} (h : s n lim F { N with nx := fun k' ρ' r' => t n lim F N k' ρ' r' } k ρ r) : gSeq s t n lim F N k ρ r := h
theorem i_gOf {s : VTS} (h : s { nx := N.nx k, rt := fun _ _ => False, bk := N.bk k, ct := N.ct k } ρ r) : gOf1 s n lim F N k ρ r := h
theorem i_gNil (h : N.nx k ρ r) : gNil n lim F N k ρ r := h
theorem i_gIf {c : VTT} {s t : VTG} (h : c ρ r fun b r1 => if b = true then s n lim F N k ρ r1 else t n lim F N k ρ r1) : gIf c s t n lim F N k ρ r := h
end
theorem set_selfL {α : Type} {l : List α} {i : Nat} {x : α} (h : l[i]? = some x) : l.set i x = l := by
  obtain ⟨hi, e⟩ := List.getElem?_eq_some_iff.mp h
  rw [← e, List.set_getElem_self]
def vfAns (C : Addr) : VFG := fun ds r n lim F => ∃ (rows legs : List (List D)) (L : Nat), ds = [dIns C (r6 rows legs)] ∧ GoodR rows legs ∧ lim = (L : Int) ∧ 0 < L ∧ L ≤ 1000 ∧ r.cs[n]? = some (.list []) ∧ F { r with cs := r.cs.set n (.list ((ansAll rows legs).take L)) }
section
variable {P : Program} {w : World} {K : PySem.W.Frag} {mg : Str → Option Value} {base : Heap}
theorem gok_ans (T : Txt K mg) : GFnR P w K mg base 4 T.f_Route_answers T.fd_Route_answers ["self"] (spGV K [true] (vfAns T.C_Route)) := by
  refine okGen (O := [0, 2000]) (O' := [1, 0, 2000]) (bs := [true]) T.F_Route_answers sc_Route_answers ?_ (by decide) (fun cdv A outer s H pn hr => (gvs_cons (gv_of (fun _ _ => (vs_setN (i := 1) sc_Route_answers.nd rfl (Or.inl rfl) (ve_rev (vl_lc (own := [("leg", 5)]) (t := (.nm 5)) rfl sc_Route_answers.nd (vi_seq (ve_fld T.cl_Route T.at_Route_legs (vb_var (pv 0)))) (blkOk_by (N := n_Route_answers) (sc := defScope s_Route_answers) (by decide +kernel)) (fun _ _ _ _ _ => (pg_name (i := 5) sc_Route_answers.nd rfl (Or.inl rfl))) (fun _ _ _ _ _ => vpts_nil) (fun _ _ _ _ _ => (ve_tup (va_cons (ve_var (pv 5)) (va_cons ve_int.ve va_nil))).ve)).vb))))
      (gvs_one (gv_while (fun _ _ => (vt_cmp (cp_ne hr.units) (vb_var (pv 1)) (ve_lst va_nil).vb))
        (gvs_cons (gv_of (fun _ _ => (vsm_asgT (t := (.tp [2, 3])) (em_pop (i := 1) (pe_bm0 PySem.F.plainAttrs_list PySem.F.slot_list_pop PySem.F.type_list_pop mt_pop (pv 1))) (pg_tup (by rfl) (pgs_cons (pg_name (i := 2) sc_Route_answers.nd rfl (Or.inl rfl)) (pgs_cons (pg_name (i := 3) sc_Route_answers.nd rfl (Or.inl rfl)) pgs_nil))))))
      (gvs_one (gv_if (fun _ _ => (vt_cmp (cp_lt) (ve_var (pv 3)).vb (ve_len (by rfl) T.z_len (vab_cons (ve_var (pv 2)).vb vab_nil)).vb))
        (gvs_cons (gv_of (fun _ _ => (vs_append (i := 1) (pe_bm PySem.F.plainAttrs_list PySem.F.slot_list_append PySem.F.type_list_append mt_append (pv 1) (pa_cons (ve_tup (va_cons (ve_var (pv 2)) (va_cons (ve_add (ve_var (pv 3)).vb ve_int.vb).ve va_nil))).ve pa_nil)))))
      (gvs_cons (gv_of (fun _ _ => (vs_set (i := 4) sc_Route_answers.nd rfl (Or.inl rfl) (ve_ix (ve_var (pv 2)).vb (ve_var (pv 3)).vb))))
      (gvs_one (gv_if (fun _ _ => (vt_val (ve_isi (Ts := "str") (by decide +kernel) (by decide +kernel) (by rfl) T.z_isinstance (by rfl) T.z_str (ve_var (pv 4)).vb).ve))
        (gvs_one (gv_yield (fun _ _ => (ve_var (pv 4)))))
        (gvs_one (gv_of (fun _ _ => (vs_if (vt_cmp (cp_gt) (ve_ix (ve_fld T.cl_Route T.at_Route_counts (vb_var (pv 0))).vb (ve_var (pv 4)).vb).vb ve_int.vb)
        (vss_one (vs_append (i := 1) (pe_bm PySem.F.plainAttrs_list PySem.F.slot_list_append PySem.F.type_list_append mt_append (pv 1) (pa_cons (ve_tup (va_cons (ve_ix (ve_ix (ve_fld T.cl_Route T.at_Route_rows (vb_var (pv 0))).vb (ve_var (pv 4)).vb).vb ve_int.vb) (va_cons ve_int.ve va_nil))).ve pa_nil))))
        vss_nil))))))))
        gvs_nil))))))) ?_
  · rintro ds r n lim F ⟨rows, legs, L, rfl, _⟩
    rfl
  · rintro ds r n lim F ⟨rows, legs, L, rfl, g, rfl, h0, h1, hc, q⟩
    rw [show startV n_Route_answers [dIns T.C_Route (r6 rows legs)] = [some (dIns T.C_Route (r6 rows legs)), none, none, none, none, none] from rfl]
    refine i_gSeq (i_gOf ?_)
    repeat infer_instance
    refine ⟨by rw [List.length_map, sizeLine_eq]; have := g.2.1; omega, ?_⟩
    refine i_go (fun d => .tuple [d, .int 0]) (fun d hd R q => ?_) ?_
    · obtain ⟨l, hl2, rfl⟩ := List.mem_map.mp hd
      repeat infer_instance
    refine ⟨_, rfl, rfl, i_gSeq ?_⟩
    have e0 : (PyData.list ((legs.map PyData.tuple).map fun d => PyData.tuple [d, .int 0]).reverse) = wtD (legs.map fun l => (l, 0)) := by
      unfold wtD prD
      rw [List.map_map, List.map_map]; rfl
    rw [e0]
    refine ⟨fun m k ρ r' => ∃ (b : Nat) (st : List (List D × Nat)) (done : List D) (v2 v3 v4 : Option D), remS (stL rows) st ≤ m ∧ Stk rows.length legs.length b st ∧ ρ = [some (dIns T.C_Route (r6 rows legs)), some (wtD st), v2, v3, v4, none] ∧ r' = { r with cs := r.cs.set n (.list done) } ∧ done ++ remA (ansL rows) st = ansAll rows legs ∧ done.length = k ∧ k < L, ⟨_, rows.length, legs.map fun l => (l, 0), [], none, none, none, Nat.le_refl _, .base (fun e he => ?_) (by rw [List.length_map]; exact Nat.le_refl _), rfl, ?_, ?_, rfl, h0⟩, ?_⟩
    · obtain ⟨l, hl, rfl⟩ := List.mem_map.mp he
      exact g.2.2 l hl
    · rw [set_selfL hc]
    · unfold remA ansAll
      rw [List.flatMap_map]; rfl
    rintro m k ρ r' ⟨b, st, done, v2, v3, v4, hm, hs, rfl, rfl, hd, hk, hkL⟩
    cases st with
    | nil =>
      repeat infer_instance
      refine i_neNil ⟨false, rfl, ?_⟩
      rw [if_neg (by decide)]
      show F _
      have ed : done = ansAll rows legs := by
        rw [← hd]
        show done = done ++ []
        rw [List.append_nil]
      rw [← ed, List.take_of_length_le (by omega)] at q
      exact q
    | cons e st =>
      obtain ⟨cs, t⟩ := e
      obtain ⟨hch, ⟨b', hs'⟩, hs2⟩ := hs.top
      have hlen := hs.len
      have ew : wtD ((cs, t) :: st) = .list ((st.map prD).reverse ++ [.tuple [.tuple cs, .int (t : Int)]]) := by
        unfold wtD
        rw [List.map_cons, List.reverse_cons]; rfl
      repeat infer_instance
      refine i_neNil ⟨true, ?_, ?_⟩
      · rw [List.map_cons, List.reverse_cons]; simp
      rw [if_pos rfl]
      refine ⟨_, fun k' ρ' r' h => h, ?_⟩
      rw [ew]
      refine i_gSeq (i_gOf ?_)
      repeat infer_instance
      refine ⟨_, _, rfl, ?_⟩
      repeat infer_instance
      refine i_gSeq (i_gIf ?_)
      repeat infer_instance
      by_cases ht : t < cs.length
      · rw [if_pos (decide_eq_true (show (t : Int) < (cs.length : Int) by omega))]
        obtain ⟨d, hdt⟩ : ∃ d, cs[t]? = some d := ⟨_, List.getElem?_eq_getElem ht⟩
        have hcd := hch.2 d (List.mem_of_getElem? hdt)
        have edr : cs.drop t = d :: cs.drop (t + 1) := by
          obtain ⟨h1, h2⟩ := List.getElem?_eq_some_iff.mp hdt
          rw [← h2]
          exact List.drop_eq_getElem_cons ht
        refine i_gSeq (i_gOf ?_)
        repeat infer_instance
        refine ⟨by rw [List.length_reverse, List.length_map, sizeLine_eq]; have h1 := g.1.1; have h2 := g.2.1; rw [List.length_cons] at hlen; omega, ?_⟩
        refine i_gSeq (i_gOf ?_)
        repeat infer_instance
        refine i_ixT (atI_nat hdt) (i_gSeq (i_gIf ?_))
        have hms : remS (stL rows) ((cs, t) :: st) = 1 + stC (stL rows) d + stCs (stL rows) (cs.drop (t + 1)) + remS (stL rows) st := by
          unfold remS stCs
          rw [List.map_cons, List.sum_cons]
          show 1 + ((cs.drop t).map _).sum + _ = _
          rw [edr, List.map_cons, List.sum_cons]
          omega
        have hms1 : remS (stL rows) ((cs, t + 1) :: st) = 1 + stCs (stL rows) (cs.drop (t + 1)) + remS (stL rows) st := by
          unfold remS
          rw [List.map_cons, List.sum_cons]
        have hra : remA (ansL rows) ((cs, t) :: st) = ansC (ansL rows) d ++ remA (ansL rows) ((cs, t + 1) :: st) := by
          unfold remA
          rw [List.flatMap_cons, List.flatMap_cons]
          show ansCs _ (cs.drop t) ++ _ = _
          rw [edr]
          unfold ansCs
          rw [List.flatMap_cons, List.append_assoc]
        have ew1 : ∀ st', PyData.list (((st'.map prD).reverse) ++ [.tuple [.tuple cs, .int ((t : Int) + 1)]]) = wtD ((cs, t + 1) :: st') := fun st' => by
          unfold wtD
          rw [List.map_cons, List.reverse_cons]
          rfl
        have hn : n < r.cs.length := (List.getElem?_eq_some_iff.mp hc).1
        rcases hcd with ⟨c, rfl, hc1, hc2⟩ | ⟨j, rfl, hj⟩
        · repeat infer_instance
          refine i_gSeq ⟨by rw [sizeLine_eq]; omega, ?_⟩
          repeat infer_instance
          refine ⟨done, by rw [List.getElem?_set_self hn], by rw [sizeLine_eq]; omega, ?_⟩
          rw [ew1, List.set_set]
          have hd2 : (done ++ [PyData.str (sg c)]) ++ remA (ansL rows) ((cs, t + 1) :: st) = ansAll rows legs := by
            rw [← hd, hra, List.append_assoc]; rfl
          have hl2 : (done ++ [PyData.str (sg c)]).length = k + 1 := by rw [List.length_append, hk]; rfl
          by_cases hL : k + 1 = L
          · rw [if_pos (by rw [hl2, hL])]
            rw [← hd2, List.take_left' (by rw [hl2, hL])] at q
            exact q
          · rw [if_neg (by rw [hl2]; omega)]
            refine i_gNil (n := n) (lim := (L : Int)) (F := F) ?_
            refine i_gNil (n := n) (lim := (L : Int)) (F := F) ?_
            refine i_gNil (n := n) (lim := (L : Int)) (F := F) ?_
            exact ⟨m - 1, by omega, b, (cs, t + 1) :: st, _, _, _, _, (by rw [hms1]; rw [hms] at hm; have : stC (stL rows) (PyData.str (sg c)) = 1 := rfl; omega), hs2 _, rfl, rfl, hd2, hl2, by omega⟩
        · repeat infer_instance
          rw [if_neg (by decide +kernel)]
          refine i_gSeq (i_gOf ?_)
          repeat infer_instance
          obtain ⟨rj, hrj⟩ : ∃ rj, rows[j]? = some rj := ⟨_, List.getElem?_eq_getElem (by omega)⟩
          have haj := ansL_at g.1 hrj
          have hsj := stL_at g.1 hrj
          have hcj : ((cntsL rows).map fun n : Nat => PyData.int (n : Int))[j]? = some (.int ((ansCs (ansL rows) rj).length : Int)) := by
            rw [cnts_eq g.1, List.map_map, List.getElem?_map, haj]; rfl
          have hac : ansC (ansL rows) (PyData.int (j : Int)) = ansCs (ansL rows) rj := by
            show (ansL rows).getD (j : Int).toNat [] = _
            rw [Int.toNat_natCast, List.getD_eq_getElem?_getD, haj]; rfl
          have hst : stC (stL rows) (PyData.int (j : Int)) = 2 + stCs (stL rows) rj := by
            show 2 + (stL rows).getD (j : Int).toNat 0 = _
            rw [Int.toNat_natCast, List.getD_eq_getElem?_getD, hsj]; rfl
          refine i_ixL (atI_nat hcj) ?_
          repeat infer_instance
          by_cases hp : 0 < (ansCs (ansL rows) rj).length
          · rw [if_pos (decide_eq_true (by omega))]
            repeat infer_instance
            refine i_ixT (d := rowD rj) (atI_nat (by rw [List.getElem?_map, hrj]; rfl)) ?_
            unfold rowD
            repeat infer_instance
            refine ⟨by rw [List.length_append, List.length_reverse, List.length_map, sizeLine_eq]; have h1 := g.1.1; have h2 := g.2.1; rw [List.length_cons] at hlen; show st.length + 1 < _; omega, ?_⟩
            refine i_gNil (n := n) (lim := (L : Int)) (F := F) ?_
            refine i_gNil (n := n) (lim := (L : Int)) (F := F) ?_
            refine i_gNil (n := n) (lim := (L : Int)) (F := F) ?_
            have ew2 : PyData.list ((st.map prD).reverse ++ [.tuple [.tuple cs, .int ((t : Int) + 1)]] ++ [.tuple [.tuple rj, .int 0]]) = wtD ((rj, 0) :: (cs, t + 1) :: st) := by
              unfold wtD
              rw [List.map_cons, List.map_cons, List.reverse_cons, List.reverse_cons]
              rfl
            rw [ew2]
            have hd2 : done ++ remA (ansL rows) ((rj, 0) :: (cs, t + 1) :: st) = ansAll rows legs := by
              rw [← hd, hra, hac]; rfl
            have hm2 : remS (stL rows) ((rj, 0) :: (cs, t + 1) :: st) = 1 + stCs (stL rows) rj + remS (stL rows) ((cs, t + 1) :: st) := by
              unfold remS
              rw [List.map_cons, List.sum_cons]; rfl
            exact ⟨m - 1, by omega, j, (rj, 0) :: (cs, t + 1) :: st, done, _, _, _, (by rw [hm2, hms1]; rw [hms, hst] at hm; omega), .push (hs2 _) hj (g.1.2 j rj hrj), rfl, rfl, hd2, hk, hkL⟩
          · rw [if_neg (fun z => hp (by have := of_decide_eq_true z; omega))]
            repeat infer_instance
            refine i_gNil (n := n) (lim := (L : Int)) (F := F) ?_
            refine i_gNil (n := n) (lim := (L : Int)) (F := F) ?_
            refine i_gNil (n := n) (lim := (L : Int)) (F := F) ?_
            rw [ew1]
            have hd2 : done ++ remA (ansL rows) ((cs, t + 1) :: st) = ansAll rows legs := by
              rw [← hd, hra, hac, List.eq_nil_of_length_eq_zero (Nat.eq_zero_of_not_pos hp)]; rfl
            exact ⟨m - 1, by omega, b, (cs, t + 1) :: st, done, _, _, _, (by rw [hms1]; rw [hms, hst] at hm; omega), hs2 _, rfl, rfl, hd2, hk, hkL⟩
      · rw [if_neg (fun z => ht (by have := of_decide_eq_true z; omega))]
        have hdr : cs.drop t = [] := List.drop_eq_nil_of_le (by omega)
        have hms : remS (stL rows) ((cs, t) :: st) = 1 + 0 + remS (stL rows) st := by
          unfold remS
          rw [List.map_cons, List.sum_cons]
          show 1 + stCs _ (cs.drop t) + _ = _
          rw [hdr]; rfl
        have hra : remA (ansL rows) ((cs, t) :: st) = remA (ansL rows) st := by
          unfold remA
          rw [List.flatMap_cons]
          show ansCs _ (cs.drop t) ++ _ = _
          rw [hdr]; rfl
        refine i_gNil (n := n) (lim := (L : Int)) (F := F) (i_gNil (n := n) (lim := (L : Int)) (F := F) ⟨m - 1, by omega, b', st, done, _, _, _, by omega, hs', rfl, rfl, ?_, hk, hkL⟩)
        rw [← hra]; exact hd
end
end Sn
namespace Sn
open PySem PySem.Spec PyProof.Rows L2
section
variable {X : Cx} {O : List Nat} {i : Nat} {e : Expr}
def vPop0 (i : Nat) : VTM := fun ρ r Q => ∃ d ds, ρ[i]? = some (some (.list (d :: ds))) ∧ Q d (ρ.set i (some (.list ds))) r
theorem em_pop0 (h : PE X e (tBM X.K "list" rPopAt (tVar i) (tCons (tC (V.int 0)) tNil))) (n : Fre O i := by decide) : VEm X O e (vPop0 i) := PE.imp h fun σ H Q q => by
  obtain ⟨A, W0, H0, W, ρ, r, Q0, E, ⟨d, ds, hd, q⟩, k⟩ := q
  obtain ⟨a, h1, h2, h3, h4, h5⟩ := E.own i _ hd n
  cases h2 with
  | lst g g' =>
    rename_i xs
    cases g' with
    | @cons v xs _ _ hw g2 =>
    refine ⟨_, h1, .inl ⟨rfl, _, SqL.of g⟩, a, v :: xs, 0, 0, v, rfl, rfl, g, by decide, by decide, ?_, rfl, ?_⟩
    · show seqIndex? 0 (xs.length + 1) = some 0
      unfold seqIndex?
      simp
    have st := E.mutS (o' := .lst xs) n hd h1
    refine k d _ r q v _ W st (fun b e => ?_) (E.mut n hd h1 fun _ => .lst upd_same (g2.stp st)) (hw.stp st)
    by_cases z : b = a
    · rw [z, upd_same] at e; cases e
    · rwa [upd_ne z] at e
end
section
variable {X : Cx} {M : Mode} {B O O' : List Nat} {a b : Expr} {i j : Nat} {x y : Str} {px py pt pos : Pos} {va vb : VT}
theorem vs_par2OOc {kt k2 pt2} (hc : X.calm = true) (hN : X.N.Nodup) (hi : X.N[i]? = some x) (hj : X.N[j]? = some y) (hij : i ≠ j)
    (lx : Loc X.env.scope x) (ly : Loc X.env.scope y) (ha : VL X O a va) (hb : VL X O b vb) (n : j ∈ O') (h1 : ∀ k, k ∈ O' ↔ k = j ∨ k ∈ i :: O) (nr : Rep O' j := by decide) (nri : Rep (i :: O) i := by decide)
    (fx : X.fn x = true ∨ X.env.scope.names.lookup x = some .local := by first | exact .inl rfl | exact .inr rfl | assumption) (fy : X.fn y = true ∨ X.env.scope.names.lookup y = some .local := by first | exact .inl rfl | exact .inr rfl | assumption)
    (hse : starEach [a, b] X.env = (false, eval a X.env) :: starEach [b] X.env := by rfl) (hse2 : starEach [b] X.env = (false, eval b X.env) :: starEach [] X.env := by rfl)
    (hs : swapsWithSole [.Tuple [.Name x px, .Name y py] kt pt] (.Tuple [a, b] k2 pt2) pos.line X.env = pure false := by rfl) (hw : swappedStores [.Tuple [.Name x px, .Name y py] kt pt] (.Tuple [a, b] k2 pt2) X.env = pure none := by rfl)
    (hn : (assignEach [.Name x px, .Name y py] X.env).length = 2 := by rfl) (hst : (assignEach [.Name x px, .Name y py] X.env).findIdx? (·.1) = none := by rfl) (hh : (assignEach [.Tuple [.Name x px, .Name y py] kt pt] X.env).map (·.2) = [assign (.Tuple [.Name x px, .Name y py] kt pt) X.env] := by rfl) :
    VS X M B O O' (.Assign [.Tuple [.Name x px, .Name y py] kt pt] (.Tuple [a, b] k2 pt2) pos) (vPar2OO i j va vb) :=
  PS.imp (ps_asg (pe_tup (pa_cons ha (pa_cons hb pa_nil hse2) hse)) (pg_tup hc (pgs_cons (pg_name hN hi lx fx) (pgs_cons (pg_name hN hj ly fy) pgs_nil)) hn hst) hs hw hh) fun D σ H q => by
  obtain ⟨A, W0, H0, W, ρ, r, N, E, q, kn, kr, kb, kc⟩ := q
  refine ⟨A, W0, H0, W, ρ, r, _, E, q, fun d r1 q1 v H1 W1 x1 E1 m1 => ?_⟩
  refine ⟨A, W0, H0, W1, ρ, r1, _, E1, q1, fun f r2 q2 u H2 W2 x2 E2 m2 => ?_⟩
  refine ⟨by show 2 ≤ sizeLine; decide, fun p hp => ⟨p, _, rfl, .inl (.inl upd_same), rfl, _, _, rfl, _, _, rfl, rfl, ?_⟩⟩
  have x3 : Ext X.K A W2 H2 W2 (upd H2 p (.tup [v, u])) := Ext.new hp
  have E2' := E2.new (o := .tup [v, u]) hp
  have m3 := mL.st (mL.st m1 x2 E1.res.av) x3 E2.res.av
  have m4 := mL.st m2 x3 E2.res.av
  rcases m1 with ⟨_, c, rfl, hc1, _, _, _⟩ | ⟨m, _⟩
  · rcases m3 with ⟨_, c', e', h, w, uu, nn⟩ | ⟨m, _⟩
    · cases e'
      rcases m4 with ⟨_, l, rfl, h', w', uu', nn'⟩ | ⟨m', _⟩
      · have E3 := E2'.setNew (O' := i :: O) (by simp) nri (by simp) h w uu (E.h0 nn) (E.fresh nn)
        have hcl : c ≠ l := fun z => hc1.isSome (by rw [z]; exact nn')
        refine kn _ r2 q2.2.2 _ _ W2 (E3.setNew n nr h1 h' w' uu' (E1.h0 nn') fun k g e1 e2 e3 => ?_) (((x1.trans x2).trans x3).stp E.res.av)
        by_cases hk : k = i
        · subst hk
          have hl : k < σ.length := by
            have := (List.getElem?_eq_some_iff.mp e3).1
            rwa [List.length_set] at this
          rw [List.getElem?_set_self hl] at e3
          cases e3
          exact hcl rfl
        · rw [List.getElem?_set_ne (Ne.symm hk)] at e1 e3
          exact E1.fresh nn' k g e1 ⟨(List.mem_cons.mp e2.1).resolve_left hk, fun y => e2.2 (List.mem_cons_of_mem _ y)⟩ e3
      · rw [q2.2.1] at m'
        cases m'
    · rw [q2.1] at m
      cases m
  · exfalso
    rcases m3 with ⟨m3, _⟩ | ⟨m3, _⟩
    · rw [m] at m3; cases m3
    · rw [q2.1] at m3; cases m3
end
section
variable {ρ : En} {r : Rs} {i : Nat} {QM : D → En → Rs → Prop}
instance : St (vPop0 i ρ r QM) (∃ d ds, ρ[i]? = some (some (.list (d :: ds))) ∧ QM d (ρ.set i (some (.list ds))) r) := ⟨id⟩
end
end Sn
namespace Sn
open PySem PySem.Spec PyProof.Rows L2 TL GenW
theorem ll_K43d_0 : ("" : Str).length = 0 := by decide +kernel
local macro_rules | `(tactic| infer_instance) => `(tactic| simp only [ty_tt, ty_ts, ty_ti, ty_tl, ty_ss, ty_st])
local macro_rules | `(tactic| infer_instance) => `(tactic| assumption)
local macro_rules | `(tactic| infer_instance) => `(tactic| dsimp only [List.set, wipeE])
local macro_rules | `(tactic| infer_instance) => `(tactic| ((with_reducible refine i_pg ?_ ?_); · assumption))
local macro_rules | `(tactic| infer_instance) => `(tactic| ((with_reducible refine i_askW ?_ ?_); · assumption))
local macro_rules | `(tactic| infer_instance) => `(tactic| ((with_reducible refine i_askN ?_ ?_); · assumption))
local macro_rules | `(tactic| infer_instance) => `(tactic| ((with_reducible refine i_okT ?_ ?_); · assumption))
local macro_rules | `(tactic| infer_instance) => `(tactic| ((with_reducible refine i_cStrF ?_ ?_); · decide +kernel))
local macro_rules | `(tactic| infer_instance) => `(tactic| ((with_reducible refine i_cStrT ?_ ?_); · rfl))
local macro_rules | `(tactic| infer_instance) => `(tactic| ((with_reducible refine i_cGF ?_ ?_); · rfl))
local macro_rules | `(tactic| infer_instance) => `(tactic| ((with_reducible refine i_cGT ?_ ?_); · rfl))
local macro_rules | `(tactic| infer_instance) => `(tactic| ((with_reducible refine i_cIntF ?_ ?_); · rfl))
local macro_rules | `(tactic| infer_instance) => `(tactic| ((with_reducible refine i_cIntT ?_ ?_); · rfl))
local macro_rules | `(tactic| infer_instance) => `(tactic| ((with_reducible apply i_appPop); (focus rfl); (focus rfl)))
local macro_rules | `(tactic| infer_instance) => `(tactic| ((with_reducible apply i_insert); · rfl))
local macro_rules | `(tactic| infer_instance) => `(tactic| ((with_reducible refine i_look2F ?_ ?_); · decide +kernel))
local macro_rules | `(tactic| infer_instance) => `(tactic| ((with_reducible refine i_look2T ?_ ?_); · rfl))
local macro_rules | `(tactic| infer_instance) => `(tactic| ((with_reducible refine i_lookF ?_ ?_); · decide +kernel))
local macro_rules | `(tactic| infer_instance) => `(tactic| ((with_reducible refine i_lookT ?_ ?_); · rfl))
local macro_rules | `(tactic| infer_instance) => `(tactic| ((with_reducible refine i_exdict ?_ ?_); · rfl))
local macro_rules | `(tactic| infer_instance) => `(tactic| ((with_reducible refine i_dget2 ?_ ?_); · rfl))
local macro_rules | `(tactic| infer_instance) => `(tactic| ((with_reducible refine i_dget ?_ ?_); · rfl))
local macro_rules | `(tactic| infer_instance) => `(tactic| ((with_reducible refine i_dispQ ?_ ?_); · decide +kernel))
local macro_rules | `(tactic| infer_instance) => `(tactic| ((with_reducible refine i_le ?_ ?_); · (simp only [List.length_append, List.length_map, List.length_replicate, List.length_cons, List.length_nil, sizeLine_eq]; omega)))
local macro_rules | `(tactic| infer_instance) => `(tactic| ((with_reducible refine i_lt ?_ ?_); · (simp only [List.length_append, List.length_map, List.length_replicate, List.length_cons, List.length_nil, sizeLine_eq]; omega)))
local macro_rules | `(tactic| infer_instance) => `(tactic| ((with_reducible refine i_addL ?_ ?_); · (simp only [List.length_append, List.length_map, List.length_replicate, List.length_cons, List.length_nil, sizeLine_eq]; omega)))
local macro_rules | `(tactic| infer_instance) => `(tactic| ((with_reducible refine i_addS ?_ ?_); · (simp only [len_app, sizeLine_eq, ll_emp, ll_K43d_0]; omega)))
local macro_rules | `(tactic| infer_instance) => `(tactic| ((with_reducible refine i_fmtS ?_ ?_); · (simp only [len_app, sizeLine_eq, ll_emp, ll_K43d_0]; omega)))
local macro_rules | `(tactic| infer_instance) => `(tactic| ((with_reducible refine i_le ?_ ?_); · (simp only [len_app, sizeLine_eq, ll_emp, ll_K43d_0]; omega)))
local macro_rules | `(tactic| infer_instance) => `(tactic| ((with_reducible apply i_ty); · rfl))
local macro_rules | `(tactic| infer_instance) => `(tactic| ((with_reducible refine i_ninTf ?_ ?_ ?_); (focus rfl); (focus (decide +kernel))))
local macro_rules | `(tactic| infer_instance) => `(tactic| ((with_reducible refine i_ninTt ?_ ?_ ?_); (focus rfl); (focus (decide +kernel))))
local macro_rules | `(tactic| infer_instance) => `(tactic| ((with_reducible refine i_inLf ?_ ?_ ?_); (focus rfl); (focus (decide +kernel))))
local macro_rules | `(tactic| infer_instance) => `(tactic| ((with_reducible refine i_inLt ?_ ?_ ?_); (focus rfl); (focus (decide +kernel))))
local macro_rules | `(tactic| infer_instance) => `(tactic| ((with_reducible refine i_inTf ?_ ?_ ?_); (focus rfl); (focus (decide +kernel))))
local macro_rules | `(tactic| infer_instance) => `(tactic| ((with_reducible refine i_inTt ?_ ?_ ?_); (focus rfl); (focus (decide +kernel))))
local macro_rules | `(tactic| infer_instance) => `(tactic| ((with_reducible apply i_extend); · rfl))
local macro_rules | `(tactic| infer_instance) => `(tactic| ((with_reducible apply i_append); · rfl))
local macro_rules | `(tactic| infer_instance) => `(tactic| ((with_reducible refine i_notNf ?_ ?_); · rfl))
local macro_rules | `(tactic| infer_instance) => `(tactic| ((with_reducible refine i_notNt ?_ ?_); · rfl))
local macro_rules | `(tactic| infer_instance) => `(tactic| ((with_reducible refine i_isNf ?_ ?_); · rfl))
local macro_rules | `(tactic| infer_instance) => `(tactic| ((with_reducible refine i_isNt ?_ ?_); · rfl))
local macro_rules | `(tactic| infer_instance) => `(tactic| ((with_reducible apply i_ixL); · rfl))
local macro_rules | `(tactic| infer_instance) => `(tactic| ((with_reducible apply i_ixT); · rfl))
local macro_rules | `(tactic| infer_instance) => `(tactic| ((with_reducible refine i_neF ?_ ?_); · decide +kernel))
local macro_rules | `(tactic| infer_instance) => `(tactic| ((with_reducible refine i_neT ?_ ?_); · rfl))
local macro_rules | `(tactic| infer_instance) => `(tactic| ((with_reducible refine i_neF ?_ ?_); · assumption))
local macro_rules | `(tactic| infer_instance) => `(tactic| ((with_reducible refine i_eqF ?_ ?_); · assumption))
local macro_rules | `(tactic| infer_instance) => `(tactic| ((with_reducible refine i_eqF ?_ ?_); · decide +kernel))
local macro_rules | `(tactic| infer_instance) => `(tactic| ((with_reducible refine i_eqT ?_ ?_); · rfl))
local macro_rules | `(tactic| infer_instance) => `(tactic| ((with_reducible refine i_dNF ?_ ?_); (focus first | decide | omega | rfl | (simp only [List.length_cons, List.length_nil]; omega))))
local macro_rules | `(tactic| infer_instance) => `(tactic| ((with_reducible refine i_dNT ?_ ?_); (focus first | decide | omega | rfl | (simp only [List.length_cons, List.length_nil]; omega))))
local macro_rules | `(tactic| infer_instance) => `(tactic| ((with_reducible refine i_dF ?_ ?_); (focus first | decide | omega | rfl | (simp only [List.length_cons, List.length_nil]; omega))))
local macro_rules | `(tactic| infer_instance) => `(tactic| ((with_reducible refine i_dT ?_ ?_); (focus first | decide | omega | rfl | (simp only [List.length_cons, List.length_nil]; omega))))
local macro_rules | `(tactic| infer_instance) => `(tactic| ((with_reducible apply i_var); · rfl))
local macro_rules | `(tactic| infer_instance) => `(tactic| ((with_reducible refine i_fs ?_ ?_); (focus first | decide | (simp only [List.length_cons, List.length_nil]; omega))))
local macro_rules | `(tactic| infer_instance) => `(tactic| ((with_reducible apply i_exLk); · rfl))
local macro_rules | `(tactic| infer_instance) => `(tactic| ((with_reducible apply i_exE); · rfl))
local macro_rules | `(tactic| infer_instance) => `(tactic| ((with_reducible refine i_dinK ?_ ?_); · rfl))
local macro_rules | `(tactic| infer_instance) => `(tactic| with_reducible refine i_exL1 ?_)
local macro_rules | `(tactic| infer_instance) => `(tactic| ((with_reducible apply i_fld); · rfl))
local macro_rules | `(tactic| infer_instance) => `(tactic| with_reducible refine i_exI ?_)
local macro_rules | `(tactic| infer_instance) => `(tactic| ((with_reducible apply i_exD); · rfl))
local macro_rules | `(tactic| infer_instance) => `(tactic| ((with_reducible apply i_exK); · rfl))
local macro_rules | `(tactic| infer_instance) => `(tactic| ((with_reducible apply i_exF); · rfl))
local macro_rules | `(tactic| infer_instance) => `(tactic| (with_reducible refine St.go ?_))
def vfTold43 (C : Addr) : VF := fun ds r Q => ∃ (rows legs : List (List D)) (L : Nat), ds = [dIns C (r6 rows legs), .int (L : Int)] ∧ GoodR rows legs ∧ 0 < L ∧ L ≤ 1000 ∧ r.cs = [] ∧ Q (.list ((ansAll rows legs).take L)) r
def vfMany43 : VF := fun ds r Q => ∃ (cs : List Nat) (ch : List D), ds = [.list (cs.map fun n : Nat => .int (n : Int)), .tuple ch] ∧ ChsK cs.length ch ∧ Q (.int (sumN cs ch : Int)) r
/-- answers are strings -/
theorem ansCs_str {A : List (List D)} {k : Nat} {cs : List D} (h : ∀ d ∈ cs, ChK k d) (hA : ∀ j, j < k → ∀ x ∈ A.getD j [], ∃ z, x = PyData.str z ∧ PyData.strOk z = true) : ∀ x ∈ ansCs A cs, ∃ z, x = PyData.str z ∧ PyData.strOk z = true := by
  intro x hx
  obtain ⟨d, hd, hx⟩ := List.mem_flatMap.mp hx
  rcases h d hd with ⟨c, rfl, hc1, hc2⟩ | ⟨j, rfl, hj⟩
  · exact ⟨sg c, by simpa [ansC] using hx, by simp [PyData.strOk, sg]; omega⟩
  · exact hA j hj x (by simpa [ansC] using hx)
theorem ansL_str {rows : List (List D)} (g : RowsK rows) : ∀ k j, j < k → ∀ x ∈ (ansL rows).getD j [], ∃ z, x = PyData.str z ∧ PyData.strOk z = true
  | 0, _, h => absurd h (Nat.not_lt_zero _)
  | k + 1, j, h => by
    intro x hx
    cases hr : rows[j]? with
    | none =>
      have hl : (ansL rows).length = rows.length := bld_len rows
      rw [List.getD_eq_getElem?_getD, List.getElem?_eq_none (by rw [hl]; exact List.getElem?_eq_none_iff.mp hr)] at hx
      cases hx
    | some cs =>
      have h2 := ansL_at g hr
      rw [List.getD_eq_getElem?_getD, h2] at hx
      exact ansCs_str (g.2 j cs hr).2 (fun i hi => ansL_str g k i (by omega)) x hx
theorem ansAll_str {rows legs : List (List D)} (g : GoodR rows legs) : ∀ x ∈ ansAll rows legs, ∃ z, x = PyData.str z ∧ PyData.strOk z = true := by
  intro x hx
  obtain ⟨l, hl, hx⟩ := List.mem_flatMap.mp hx
  exact ansCs_str (g.2.2 l hl).2 (fun j _ => ansL_str g.1 (j + 1) j (Nat.lt_succ_self j)) x hx
theorem cfrA_ch {n k : Nat} {cs : List D} (h : ∀ d ∈ cs, ChK k d) : cfrA n cs = true := cfrA_all n fun d hd => by
  rcases h d hd with ⟨c, rfl, _⟩ | ⟨j, rfl, _⟩ <;> simp [cfr]
theorem cfr_r6 {n : Nat} {C : Addr} {rows legs : List (List D)} (g : GoodR rows legs) : cfr n (dIns C (r6 rows legs)) = true := by
  have h1 : cfrA n (rows.map rowD) = true := cfrA_all n fun d hd => by
    obtain ⟨cs, hc, rfl⟩ := List.mem_map.mp hd
    obtain ⟨i, hi⟩ := List.getElem?_of_mem hc
    have h := cfrA_ch (n := n) (g.1.2 i cs hi).2
    simp [rowD, cfr, cfrA, h]
  have h2 : cfrA n (legs.map PyData.tuple) = true := cfrA_all n fun d hd => by
    obtain ⟨l, hl, rfl⟩ := List.mem_map.mp hd
    have h := cfrA_ch (n := n) (g.2.2 l hl).2
    simp [cfr, h]
  have h3 : cfrA n ((cntsL rows).map fun n : Nat => PyData.int (n : Int)) = true := cfrA_all n fun d hd => by
    obtain ⟨l, hl, rfl⟩ := List.mem_map.mp hd
    simp [cfr]
  simp [dIns, r6, cliD, cfr, cfrK, cfrA, h1, h2, h3]
section
variable {P : Program} {w : World} {K : PySem.W.Frag} {mg : Str → Option Value} {base : Heap}
theorem vok_told43 (T : Txt K mg) : FnOk P w K mg base CX0 6 T.f_law_told T.fd_law_told ["_law_way", "_law_most"] (spR K mF [true, false] (vfTold43 T.C_Route)) := by
  refine okR (M := mF) (O := [0, 2000]) (O' := [0, 2000]) (bs := [true, false]) T.F_law_told sc_law_told ?_ (by decide) (fun cdv A outer s H E hr => (vss_cons (vs_setN (i := 2) sc_law_told.nd rfl (Or.inl rfl) (ve_lst va_nil))
      (vss_cons (vs_forG (i := 3) (f := 2) (m := 1) (O1 := [0, 2000]) T.cl_Route T.m_Route_answers (gok_ans T) (hr.mono (by decide)) T.b_Route_answers (vb_var (pv 0)) (hN := sc_law_told.nd) (ni := rfl) (ki := rfl) (nf := rfl) (vf' := .inl rfl) (nm := rfl) (vm := .inl rfl) (hif := by decide) (him := by decide) (hmf := by decide) (nmO := by decide) (hg := by rfl) (hb := T.z_len))
      (vss_one (vs_retVF (pv 2)))))) ?_
  · rintro ds r Q ⟨rows, legs, L, rfl, _⟩
    rfl
  · rintro ds r Q ⟨rows, legs, L, rfl, g, h0, h1, hcs, q⟩
    rw [show startV n_law_told [dIns T.C_Route (r6 rows legs), .int (L : Int)] = [some (dIns T.C_Route (r6 rows legs)), some (.int (L : Int)), none, none] from rfl]
    repeat infer_instance
    refine ⟨[], (L : Int), rfl, rfl, ?_⟩
    repeat infer_instance
    refine ⟨rfl, rows, legs, L, rfl, g, rfl, h0, h1, ?_, ?_⟩
    · rw [List.getElem?_append_right (Nat.le_refl _), Nat.sub_self]; rfl
    refine ⟨(ansAll rows legs).take L, ?_, cfrA_all _ fun d hd => ?_, ?_, ?_, ?_⟩
    · rw [List.getElem?_set_self (by rw [List.length_append]; simp)]
    · obtain ⟨z, rfl, _⟩ := ansAll_str g d (List.mem_of_mem_take hd)
      simp [cfr]
    · have h := cfr_r6 (n := r.cs.length) (C := T.C_Route) g
      simp [allCf, h, cfr]
    · rw [hcs]; rfl
    obtain ⟨m0, cs0, sl0⟩ := r
    simp only at hcs
    subst hcs
    repeat infer_instance
theorem vok_many43 (T : Txt K mg) : FnOk P w K mg base CX0 1 T.f_law_many_of T.fd_law_many_of ["_law_counts", "_law_choices"] (spR K mF [true, false] vfMany43) := by
  refine okR (M := mF) (O := [0, 2000]) (O' := [0, 2000]) (bs := [true, false]) T.F_law_many_of sc_law_many_of ?_ (by decide) (fun cdv A outer s H E hr => (vss_cons (vs_set (i := 2) sc_law_many_of.nd rfl (Or.inl rfl) ve_int.ve)
      (vss_cons (vs_for (t := (.nm 3)) PassesOwn.never rfl (vi_seq (ve_var (pv 1))) (pg_name (i := 3) sc_law_many_of.nd rfl (Or.inl rfl))
        (vss_one (vs_set (i := 2) sc_law_many_of.nd rfl (Or.inl rfl) (ve_add (ve_var (pv 2)).vb (ve_if (vt_val (ve_isi (Ts := "str") (by decide +kernel) (by decide +kernel) (by rfl) T.z_isinstance (by rfl) T.z_str (ve_var (pv 3)).vb).ve) ve_int.ve (ve_ix (vb_var (pv 0)) (ve_var (pv 3)).vb)).vb).ve)))
      (vss_one (vs_ret (ve_var (pv 2))))))) ?_
  · rintro ds r Q ⟨cs, ch, rfl, _⟩
    rfl
  · rintro ds r Q ⟨cs, ch, rfl, h, q⟩
    rw [show startV n_law_many_of [.list (cs.map fun n : Nat => PyData.int (n : Int)), .tuple ch] = [some (.list (cs.map fun n : Nat => PyData.int (n : Int))), some (.tuple ch), none, none] from rfl]
    repeat infer_instance
    refine i_loop (fun i ρ r' => r = r' ∧ ∃ v3 : Option D, ρ = [some (.list (cs.map fun n : Nat => PyData.int (n : Int))), some (.tuple ch), some (.int (sumN cs (ch.take i) : Int)), v3]) ⟨rfl, none, rfl⟩ ?_ ?_
    · rintro i d ρ r1 nx hd ⟨rfl, v3, rfl⟩ hI
      have hcd := h.2 d (List.mem_of_getElem? hd)
      have es : sumN cs (ch.take (i + 1)) = sumN cs (ch.take i) + cntN cs d := by
        rw [takes2K hd]
        unfold sumN
        rw [List.map_append, List.sum_append]
        simp
      rcases hcd with ⟨c, rfl, _⟩ | ⟨j, rfl, hj⟩
      · repeat infer_instance
        refine hI _ _ ⟨rfl, some (.str (sg c)), ?_⟩
        rw [es]; rfl
      · repeat infer_instance
        rw [if_neg (by decide +kernel)]
        repeat infer_instance
        refine i_ixL (d := .int ((cs.getD j 0 : Nat) : Int)) (atI_nat (by rw [List.getElem?_map, List.getD_eq_getElem?_getD, List.getElem?_eq_getElem hj]; rfl)) ?_
        repeat infer_instance
        refine hI _ _ ⟨rfl, some (.int (j : Int)), ?_⟩
        rw [es]; rfl
    · rintro ρ r1 ⟨rfl, v3, rfl⟩
      repeat infer_instance
      rw [List.take_length]
      exact q
end
end Sn
namespace Sn
open PySem PySem.Spec PyProof.Rows L2 TL GenW
def rvG (us ws : List Value) : List Value := us ++ ws.reverse
def rvV (us ws : List V) : List V := us ++ ws.reverse
theorem rv_rel {vs : List V} {us : List Value} {zs : List V} {ws : List Value} (h : Vals vs us) (h2 : Vals zs ws) : Vals (rvV vs zs) (rvG us ws) := h.append (Vals.reverse h2)
/-- the parameters the other way round -/
def vfRev (vf : VFX) : VFX := fun ds r Q => ∃ s a b c d, ds = [s, a, b, c, d] ∧ vf [s, d, c, b, a] r Q
theorem spX_rev {K : PySem.W.Frag} {vf : VFX} {vs : List V} {x : V} {H : Hp} {Q : VK} {E : XK} (h : spX K mF [true, false, false, false, false] (vfRev vf) (x :: vs) H Q E) : spX K mF [true, false, false, false, false] vf (rvV [x] vs) H Q E := by
  obtain ⟨A, W, ds, r, Q0, bo, R, hv, nd, ⟨s, a, b, c, d, rfl, q⟩, k⟩ := h
  cases hv with
  | «mut» h1 h2 h3 hv =>
  cases hv with
  | frz a1 hv =>
  cases hv with
  | frz a2 hv =>
  cases hv with
  | frz a3 hv =>
  cases hv with
  | frz a4 hv =>
  cases hv
  exact ⟨A, W, _, r, Q0, _, R, .«mut» h1 h2 h3 (.frz a4 (.frz a3 (.frz a2 (.frz a1 .nil)))), nd, q, k⟩
section
variable {X : Cx} {O : List Nat} {k : Nat} {f C : Addr} {fd : FuncData} {ps ks : List Str} {vf : VFX} {x : Str} {p pos kpos kpos2 kpos3 kpos4 : Pos} {e1 e2 e3 e4 : Expr} {v1 v2 v3 v4 : VT} {n1 n2 n3 n4 : Option Str}
theorem vl_makeK4 (Mk : Mk X.K C f) (F : FnOk X.prog X.w X.K X.mg X.base CX0 k f fd ps (spX X.K mF [true, false, false, false, false] vf)) (hr : Room (k + 1) X.A) (hg : Gl X x) (hm : X.mg x = some (.ref C)) (hb : KBn X.K fd ps 1 ks rvG rvV) (h1 : VE X O e1 v1) (h2 : VE X O e2 v2) (h3 : VE X O e3 v3) (h4 : VE X O e4 v4)
    (hall : (backToKw pos (keywordEach [⟨n1, e1, kpos⟩, ⟨n2, e2, kpos2⟩, ⟨n3, e3, kpos3⟩, ⟨n4, e4, kpos4⟩] X.env)).all (·.1.isSome) = true := by rfl) (hks : (backToKw pos (keywordEach [⟨n1, e1, kpos⟩, ⟨n2, e2, kpos2⟩, ⟨n3, e3, kpos3⟩, ⟨n4, e4, kpos4⟩] X.env)).filterMap (·.1) = ks := by rfl) (hdb : (x == ("__debug__" : Str)) = false := by decide)
    (hpl : ((backTo pos (starEach [] X.env)).any (·.1) || (backToKw pos (keywordEach [⟨n1, e1, kpos⟩, ⟨n2, e2, kpos2⟩, ⟨n3, e3, kpos3⟩, ⟨n4, e4, kpos4⟩] X.env)).any (·.1.isNone)) = false := by rfl) (hl : ks.length = 4 := by rfl) :
    VL X O (.Call (.Name x p) [] [⟨n1, e1, kpos⟩, ⟨n2, e2, kpos2⟩, ⟨n3, e3, kpos3⟩, ⟨n4, e4, kpos4⟩] pos) (vMake C (vfRev vf) [.f v1, .f v2, .f v3, .f v4]) := PE.imp (pe_makeK0 (E := E0) Mk F hr hg hm hb pass0 (pk_cons h1 (pk_cons h2 (pk_cons h3 (pk_cons h4 pk_nil)))) hall hks hdb hpl) fun σ H Q q => by
  have q := lift_make (as := [.f v1, .f v2, .f v3, .f v4]) (bs := [false, false, false, false]) (E := E0) (.f (.f (.f (.f .nil)))) rfl q
  obtain ⟨A, W0, H0, W, ρ, r, Q0, E, q, k⟩ := q
  refine ⟨A, W0, H0, W, ρ, r, _, E, q, fun d1 r1 q1 u1 H1 W1 x1 E1 m1 => ?_⟩
  refine ⟨A, W0, H0, W1, ρ, r1, _, E1, q1, fun d2 r2 q2 u2 H2 W2 x2 E2 m2 => ?_⟩
  refine ⟨A, W0, H0, W2, ρ, r2, _, E2, q2, fun d3 r3 q3 u3 H3 W3 x3 E3 m3 => ?_⟩
  refine ⟨A, W0, H0, W3, ρ, r3, _, E3, q3, fun d4 r4 q4 u4 H4 W4 x4 E4 m4 => ?_⟩
  refine ⟨rfl, hl.symm, ?_⟩
  have z := k [d1, d2, d3, d4] r4 q4 [u1, u2, u3, u4] H4 W4 (((x1.trans x2).trans x3).trans x4) E4 (.f (((m1.ext x2 E1.res.av).ext x3 E2.res.av).ext x4 E3.res.av) (.f ((m2.ext x3 E2.res.av).ext x4 E3.res.av) (.f (m3.ext x4 E3.res.av) (.f m4 .nil))))
  intro y dx hy hdx ne
  exact spX_rev (z y dx hy hdx ne)
end
section
variable {P : Program} {w : World} {K : PySem.W.Frag} {mg : Str → Option Value} {base : Heap}
theorem kb_route (T : Txt K mg) : KBn K T.fd_Route_init ["self", "start", "arguments", "rows", "legs"] 1 ["legs", "rows", "arguments", "start"] rvG rvV := by
  obtain ⟨oc, od, kV, dc, pm, an, cd, ct, sl, e, lk, hcd⟩ := T.F_Route_init.ex
  rw [e]
  exact ⟨fun s us ws _ h1 h2 => match us, ws, h1, h2 with | [_], [_, _, _, _], _, _ => .of_eq rfl, fun a b => rv_rel a b⟩
end
end Sn
namespace Sn
open PySem PySem.Spec PyProof.Rows L2 TL
theorem ll_K43f_0 : ("" : Str).length = 0 := by decide +kernel
theorem ll_K43f_1 : (" !#$&'()*+,-./0123456789:;<=>?@ABYZ[]^_`abyz{|}~" : Str).length = 48 := by decide +kernel
theorem ll_K43f_2 : ("abcdefghij01_!" : Str).length = 14 := by decide +kernel
local macro_rules | `(tactic| infer_instance) => `(tactic| simp only [ty_tt, ty_ts, ty_ti, ty_tl, ty_ss, ty_st])
local macro_rules | `(tactic| infer_instance) => `(tactic| assumption)
local macro_rules | `(tactic| infer_instance) => `(tactic| dsimp only [List.set, wipeE])
local macro_rules | `(tactic| infer_instance) => `(tactic| ((with_reducible refine i_pg ?_ ?_); · assumption))
local macro_rules | `(tactic| infer_instance) => `(tactic| ((with_reducible refine i_askW ?_ ?_); · assumption))
local macro_rules | `(tactic| infer_instance) => `(tactic| ((with_reducible refine i_askN ?_ ?_); · assumption))
local macro_rules | `(tactic| infer_instance) => `(tactic| ((with_reducible refine i_okT ?_ ?_); · assumption))
local macro_rules | `(tactic| infer_instance) => `(tactic| ((with_reducible refine i_cStrF ?_ ?_); · decide +kernel))
local macro_rules | `(tactic| infer_instance) => `(tactic| ((with_reducible refine i_cStrT ?_ ?_); · rfl))
local macro_rules | `(tactic| infer_instance) => `(tactic| ((with_reducible refine i_cGF ?_ ?_); · rfl))
local macro_rules | `(tactic| infer_instance) => `(tactic| ((with_reducible refine i_cGT ?_ ?_); · rfl))
local macro_rules | `(tactic| infer_instance) => `(tactic| ((with_reducible refine i_cIntF ?_ ?_); · rfl))
local macro_rules | `(tactic| infer_instance) => `(tactic| ((with_reducible refine i_cIntT ?_ ?_); · rfl))
local macro_rules | `(tactic| infer_instance) => `(tactic| ((with_reducible apply i_appPop); (focus rfl); (focus rfl)))
local macro_rules | `(tactic| infer_instance) => `(tactic| ((with_reducible apply i_insert); · rfl))
local macro_rules | `(tactic| infer_instance) => `(tactic| ((with_reducible refine i_look2F ?_ ?_); · decide +kernel))
local macro_rules | `(tactic| infer_instance) => `(tactic| ((with_reducible refine i_look2T ?_ ?_); · rfl))
local macro_rules | `(tactic| infer_instance) => `(tactic| ((with_reducible refine i_lookF ?_ ?_); · decide +kernel))
local macro_rules | `(tactic| infer_instance) => `(tactic| ((with_reducible refine i_lookT ?_ ?_); · rfl))
local macro_rules | `(tactic| infer_instance) => `(tactic| ((with_reducible refine i_exdict ?_ ?_); · rfl))
local macro_rules | `(tactic| infer_instance) => `(tactic| ((with_reducible refine i_dget2 ?_ ?_); · rfl))
local macro_rules | `(tactic| infer_instance) => `(tactic| ((with_reducible refine i_dget ?_ ?_); · rfl))
local macro_rules | `(tactic| infer_instance) => `(tactic| ((with_reducible refine i_dispQ ?_ ?_); · decide +kernel))
local macro_rules | `(tactic| infer_instance) => `(tactic| ((with_reducible refine i_le ?_ ?_); · (simp only [List.length_append, List.length_map, List.length_replicate, List.length_cons, List.length_nil, sizeLine_eq]; omega)))
local macro_rules | `(tactic| infer_instance) => `(tactic| ((with_reducible refine i_lt ?_ ?_); · (simp only [List.length_append, List.length_map, List.length_replicate, List.length_cons, List.length_nil, sizeLine_eq]; omega)))
local macro_rules | `(tactic| infer_instance) => `(tactic| ((with_reducible refine i_addL ?_ ?_); · (simp only [List.length_append, List.length_map, List.length_replicate, List.length_cons, List.length_nil, sizeLine_eq]; omega)))
local macro_rules | `(tactic| infer_instance) => `(tactic| ((with_reducible refine i_addS ?_ ?_); · (simp only [len_app, sizeLine_eq, ll_emp, ll_K43f_0, ll_K43f_1, ll_K43f_2]; omega)))
local macro_rules | `(tactic| infer_instance) => `(tactic| ((with_reducible refine i_fmtS ?_ ?_); · (simp only [len_app, sizeLine_eq, ll_emp, ll_K43f_0, ll_K43f_1, ll_K43f_2]; omega)))
local macro_rules | `(tactic| infer_instance) => `(tactic| ((with_reducible refine i_le ?_ ?_); · (simp only [len_app, sizeLine_eq, ll_emp, ll_K43f_0, ll_K43f_1, ll_K43f_2]; omega)))
local macro_rules | `(tactic| infer_instance) => `(tactic| ((with_reducible apply i_ty); · rfl))
local macro_rules | `(tactic| infer_instance) => `(tactic| ((with_reducible refine i_ninTf ?_ ?_ ?_); (focus rfl); (focus (decide +kernel))))
local macro_rules | `(tactic| infer_instance) => `(tactic| ((with_reducible refine i_ninTt ?_ ?_ ?_); (focus rfl); (focus (decide +kernel))))
local macro_rules | `(tactic| infer_instance) => `(tactic| ((with_reducible refine i_inLf ?_ ?_ ?_); (focus rfl); (focus (decide +kernel))))
local macro_rules | `(tactic| infer_instance) => `(tactic| ((with_reducible refine i_inLt ?_ ?_ ?_); (focus rfl); (focus (decide +kernel))))
local macro_rules | `(tactic| infer_instance) => `(tactic| ((with_reducible refine i_inTf ?_ ?_ ?_); (focus rfl); (focus (decide +kernel))))
local macro_rules | `(tactic| infer_instance) => `(tactic| ((with_reducible refine i_inTt ?_ ?_ ?_); (focus rfl); (focus (decide +kernel))))
local macro_rules | `(tactic| infer_instance) => `(tactic| ((with_reducible apply i_extend); · rfl))
local macro_rules | `(tactic| infer_instance) => `(tactic| ((with_reducible apply i_append); · rfl))
local macro_rules | `(tactic| infer_instance) => `(tactic| ((with_reducible refine i_notNf ?_ ?_); · rfl))
local macro_rules | `(tactic| infer_instance) => `(tactic| ((with_reducible refine i_notNt ?_ ?_); · rfl))
local macro_rules | `(tactic| infer_instance) => `(tactic| ((with_reducible refine i_isNf ?_ ?_); · rfl))
local macro_rules | `(tactic| infer_instance) => `(tactic| ((with_reducible refine i_isNt ?_ ?_); · rfl))
local macro_rules | `(tactic| infer_instance) => `(tactic| ((with_reducible apply i_ixL); · rfl))
local macro_rules | `(tactic| infer_instance) => `(tactic| ((with_reducible apply i_ixT); · rfl))
local macro_rules | `(tactic| infer_instance) => `(tactic| ((with_reducible refine i_neF ?_ ?_); · decide +kernel))
local macro_rules | `(tactic| infer_instance) => `(tactic| ((with_reducible refine i_neT ?_ ?_); · rfl))
local macro_rules | `(tactic| infer_instance) => `(tactic| ((with_reducible refine i_neF ?_ ?_); · assumption))
local macro_rules | `(tactic| infer_instance) => `(tactic| ((with_reducible refine i_eqF ?_ ?_); · assumption))
local macro_rules | `(tactic| infer_instance) => `(tactic| ((with_reducible refine i_eqF ?_ ?_); · decide +kernel))
local macro_rules | `(tactic| infer_instance) => `(tactic| ((with_reducible refine i_eqT ?_ ?_); · rfl))
local macro_rules | `(tactic| infer_instance) => `(tactic| ((with_reducible refine i_dNF ?_ ?_); (focus first | decide | omega | rfl | (simp only [List.length_cons, List.length_nil]; omega))))
local macro_rules | `(tactic| infer_instance) => `(tactic| ((with_reducible refine i_dNT ?_ ?_); (focus first | decide | omega | rfl | (simp only [List.length_cons, List.length_nil]; omega))))
local macro_rules | `(tactic| infer_instance) => `(tactic| ((with_reducible refine i_dF ?_ ?_); (focus first | decide | omega | rfl | (simp only [List.length_cons, List.length_nil]; omega))))
local macro_rules | `(tactic| infer_instance) => `(tactic| ((with_reducible refine i_dT ?_ ?_); (focus first | decide | omega | rfl | (simp only [List.length_cons, List.length_nil]; omega))))
local macro_rules | `(tactic| infer_instance) => `(tactic| ((with_reducible apply i_var); · rfl))
local macro_rules | `(tactic| infer_instance) => `(tactic| ((with_reducible refine i_fs ?_ ?_); (focus first | decide | (simp only [List.length_cons, List.length_nil]; omega))))
local macro_rules | `(tactic| infer_instance) => `(tactic| ((with_reducible apply i_exLk); · rfl))
local macro_rules | `(tactic| infer_instance) => `(tactic| ((with_reducible apply i_exE); · rfl))
local macro_rules | `(tactic| infer_instance) => `(tactic| ((with_reducible refine i_dinK ?_ ?_); · rfl))
local macro_rules | `(tactic| infer_instance) => `(tactic| with_reducible refine i_exL1 ?_)
local macro_rules | `(tactic| infer_instance) => `(tactic| ((with_reducible apply i_fld); · rfl))
local macro_rules | `(tactic| infer_instance) => `(tactic| with_reducible refine i_exI ?_)
local macro_rules | `(tactic| infer_instance) => `(tactic| ((with_reducible apply i_exD); · rfl))
local macro_rules | `(tactic| infer_instance) => `(tactic| ((with_reducible apply i_exK); · rfl))
local macro_rules | `(tactic| infer_instance) => `(tactic| ((with_reducible apply i_exF); · rfl))
local macro_rules | `(tactic| infer_instance) => `(tactic| (with_reducible refine St.go ?_))
def vfRow43 : VF := fun ds r Q => ∃ (m : Nat) (cs0 : List D) (sl : Nat) (k : Nat) (b : Bool), ds = [dSt, .int (k : Int), .bool b] ∧ r = ⟨m, cs0, sl⟩ ∧ m ≤ 500000000 ∧ k ≤ 2000 ∧ ∀ cs m', ChsK k cs → cs.length ≤ 5 → m' ≤ m + 50 → Q (.tuple cs) ⟨m', cs0, sl⟩
theorem all_ch {z : String} (h : (Str.ofString z).cps.toList.all (fun c => decide (32 ≤ c) && decide (c ≤ 126)) = true) : ∀ x : Nat, x ∈ (Str.ofString z).cps.toList → ChK k (.str ⟨#[x]⟩) := fun x hx => by
  have h := List.all_eq_true.mp h x hx
  simp only [Bool.and_eq_true, decide_eq_true_eq] at h
  exact .inl ⟨x, rfl, h.1, h.2⟩
section
variable {P : Program} {w : World} {K : PySem.W.Frag} {mg : Str → Option Value} {base : Heap}
theorem vok_row43 (T : Txt K mg) : FnOk P w K mg base CX0 5 T.f_law_row_of T.fd_law_row_of ["_law_state", "_law_k", "_law_near"] (spV K mF vfRow43) := by
  refine okV (M := mF) (O' := []) T.F_law_row_of sc_law_row_of ?_ (fun cdv A outer s H E hr => (vss_cons (vs_if (vt_cmp (cp_eq hr.units) (ve_call (vok_take T) (hr.mono (by decide)) (by rfl) T.g_law_take T.F_law_take.kp T.b_law_take (va_cons (ve_var (pv 0)) (va_cons ve_int.ve va_nil))).vb ve_int.vb)
        (vss_one (vs_ret (ve_tup va_nil).ve))
        vss_nil)
      (vss_cons (vs_setN (i := 3) sc_law_row_of.nd rfl (Or.inl rfl) (ve_lst va_nil))
      (vss_cons (vs_for (t := (.nm 4)) PassesOwn.never rfl (vi_rng1 (by rfl) T.z_range (vab_cons (ve_call (vok_take T) (hr.mono (by decide)) (by rfl) T.g_law_take T.F_law_take.kp T.b_law_take (va_cons (ve_var (pv 0)) (va_cons ve_int.ve va_nil))).vb vab_nil)) (pg_name (i := 4) sc_law_row_of.nd rfl (Or.inl rfl))
        (vss_one (vs_if (vw_and (vt_cmp (cp_gt) (ve_var (pv 1)).vb ve_int.vb) (vw_and1 (vt_cmp (cp_gt) (ve_call (vok_take T) (hr.mono (by decide)) (by rfl) T.g_law_take T.F_law_take.kp T.b_law_take (va_cons (ve_var (pv 0)) (va_cons ve_int.ve va_nil))).vb ve_int.vb))).vt
        (vss_one (vs_append (i := 3) (pe_bm PySem.F.plainAttrs_list PySem.F.slot_list_append PySem.F.type_list_append mt_append (pv 3) (pa_cons (ve_if (vw_and (vt_val (ve_var (pv 2))) (vw_and1 (vt_cmp (cp_gt) (ve_call (vok_take T) (hr.mono (by decide)) (by rfl) T.g_law_take T.F_law_take.kp T.b_law_take (va_cons (ve_var (pv 0)) (va_cons ve_int.ve va_nil))).vb ve_int.vb))).vt (ve_sub (ve_var (pv 1)).vb ve_int.vb).ve (ve_call (vok_take T) (hr.mono (by decide)) (by rfl) T.g_law_take T.F_law_take.kp T.b_law_take (va_cons (ve_var (pv 0)) (va_cons (ve_var (pv 1)) va_nil)))) pa_nil))))
        (vss_one (vs_append (i := 3) (pe_bm PySem.F.plainAttrs_list PySem.F.slot_list_append PySem.F.type_list_append mt_append (pv 3) (pa_cons (ve_call (vok_pick T) (hr.mono (by decide)) (by rfl) T.g_law_pick T.F_law_pick.kp T.b_law_pick (va_cons (ve_var (pv 0)) (va_cons ve_str.ve va_nil))) pa_nil)))))))
      (vss_cons (vs_insert (i := 3) (pe_bm PySem.F.plainAttrs_list PySem.F.slot_list_insert PySem.F.type_list_insert mt_insertV (pv 3) (pa_cons (ve_call (vok_take T) (hr.mono (by decide)) (by rfl) T.g_law_take T.F_law_take.kp T.b_law_take (va_cons (ve_var (pv 0)) (va_cons (ve_add (ve_len (by rfl) T.z_len (vab_cons (vb_var (pv 3)) vab_nil)).vb ve_int.vb).ve va_nil))) (pa_cons (ve_call (vok_pick T) (hr.mono (by decide)) (by rfl) T.g_law_pick T.F_law_pick.kp T.b_law_pick (va_cons (ve_var (pv 0)) (va_cons ve_str.ve va_nil))) pa_nil))))
      (vss_one (vs_ret (ve_tuple (by rfl) T.z_tuple (vab_cons (vb_var (pv 3)) vab_nil)).ve))))))) ?_
  · rintro ds r Q ⟨m, cs0, sl, k, b, rfl, _⟩
    rfl
  · rintro ds r Q ⟨m, cs0, sl, k, b, rfl, rfl, hm, hk, q⟩
    rw [show startV n_law_row_of [dSt, .int (k : Int), .bool b] = [some (dSt), some (.int (k : Int)), some (.bool b), none, none] from rfl]
    repeat infer_instance
    refine i_take (by show m ≤ _; omega) (by omega) (by omega) fun k0 hk0 => ?_
    repeat infer_instance
    by_cases z0 : k0 = 0
    · rw [if_pos (decide_eq_true (by omega))]
      repeat infer_instance
      exact q [] _ ⟨by simp, fun d hd => nomatch hd⟩ (by simp) (by omega)
    rw [if_neg (fun z => z0 (by have := of_decide_eq_true z; omega))]
    repeat infer_instance
    refine i_take (by show m + 1 ≤ _; omega) (by omega) (by omega) fun k1 hk1 => ?_
    repeat infer_instance
    refine ⟨_, rfl, by omega, by omega, ?_⟩
    rw [Int.toNat_natCast]
    refine i_loop (fun i ρ r' => ∃ (cs : List D) (m' : Nat) (v4 : Option D), r' = ⟨m', cs0, sl⟩ ∧ m' ≤ m + 2 + 4 * i ∧ cs.length = i ∧ i ≤ 4 ∧ (∀ d ∈ cs, ChK k d) ∧ ρ = [some dSt, some (.int (k : Int)), some (.bool b), some (.list cs), v4]) ⟨[], m + 2, none, rfl, by omega, rfl, by omega, (fun d hd => nomatch hd), rfl⟩ ?_ ?_
    · rintro i d ρ _ nx hd ⟨cs, m', v4, rfl, hm', hl, hi, hc, rfl⟩ hI
      have hi2 : i < k1 := by
        have h := (List.getElem?_eq_some_iff.mp hd).1
        simpa [rngD] using h
      have fin : ∀ (e : D) (m2 : Nat), ChK k e → m2 ≤ m' + 4 → cs.length < sizeLine ∧ nx [some dSt, some (.int (k : Int)), some (.bool b), some (.list (cs ++ [e])), some d] ⟨m2, cs0, sl⟩ := fun e m2 he h2 => ⟨by rw [sizeLine_eq]; omega, hI _ _ ⟨cs ++ [e], m2, some d, rfl, by omega, by rw [List.length_append, hl]; rfl, by omega, fun x hx => by
        rcases List.mem_append.mp hx with hx | hx
        · exact hc x hx
        · rw [List.mem_singleton.mp hx]; exact he, rfl⟩⟩
      repeat infer_instance
      by_cases zk : k = 0
      · rw [if_neg (fun z => by have := of_decide_eq_true z; omega), if_neg (by decide)]
        repeat infer_instance
        refine i_pickS (by show m' ≤ _; omega) (by decide +kernel) (by decide +kernel) fun x hx => ?_
        repeat infer_instance
        exact (fin _ (m' + 1) (all_ch (by decide +kernel) x hx) (by omega)).2
      · rw [if_pos (decide_eq_true (by omega))]
        repeat infer_instance
        refine i_take (by show m' ≤ _; omega) (by omega) (by omega) fun k2 hk2 => ?_
        repeat infer_instance
        by_cases z2 : k2 = 0
        · rw [if_neg (fun z => by have := of_decide_eq_true z; omega)]
          repeat infer_instance
          refine i_pickS (by show m' + 1 ≤ _; omega) (by decide +kernel) (by decide +kernel) fun x hx => ?_
          repeat infer_instance
          exact (fin _ (m' + 2) (all_ch (by decide +kernel) x hx) (by omega)).2
        · rw [if_pos (decide_eq_true (by omega))]
          repeat infer_instance
          cases b with
          | true =>
            rw [if_pos rfl]
            repeat infer_instance
            refine i_take (by show m' + 1 ≤ _; omega) (by omega) (by omega) fun k3 hk3 => ?_
            repeat infer_instance
            by_cases z3 : k3 = 0
            · rw [if_neg (fun z => by have := of_decide_eq_true z; omega)]
              repeat infer_instance
              refine i_take (by show m' + 1 + 1 ≤ _; omega) (by omega) (by omega) fun k4 hk4 => ?_
              repeat infer_instance
              exact (fin _ (m' + 3) (.inr ⟨k4, rfl, by omega⟩) (by omega)).2
            · rw [if_pos (decide_eq_true (by omega))]
              repeat infer_instance
              exact (fin _ (m' + 2) (.inr ⟨k - 1, by congr 1; omega, by omega⟩) (by omega)).2
          | false =>
            rw [if_neg (by decide), if_neg (by decide)]
            repeat infer_instance
            refine i_take (by show m' + 1 ≤ _; omega) (by omega) (by omega) fun k4 hk4 => ?_
            repeat infer_instance
            exact (fin _ (m' + 2) (.inr ⟨k4, rfl, by omega⟩) (by omega)).2
    · rintro ρ _ ⟨cs, m', v4, rfl, hm', hl, hi, hc, rfl⟩
      repeat infer_instance
      refine i_take (by show m' ≤ _; omega) (by omega) (by omega) fun k2 hk2 => ?_
      repeat infer_instance
      refine i_pickS (by show m' + 1 ≤ _; omega) (by decide +kernel) (by decide +kernel) fun x hx => ?_
      repeat infer_instance
      refine ⟨by omega, ?_⟩
      rw [Int.toNat_natCast]
      repeat infer_instance
      refine ⟨by omega, ?_⟩
      repeat infer_instance
      refine q _ (m' + 2) ⟨?_, fun e he => ?_⟩ ?_ (by omega)
      · rw [List.length_append, List.length_append, List.length_take, List.length_drop]
        show min k2 cs.length + 1 + _ ≤ _
        omega
      · rcases List.mem_append.mp he with he | he
        · rcases List.mem_append.mp he with he | he
          · exact hc e (List.mem_of_mem_take he)
          · rw [List.mem_singleton.mp he]; exact all_ch (by decide +kernel) x hx
        · exact hc e (List.mem_of_mem_drop he)
      · rw [List.length_append, List.length_append, List.length_take, List.length_drop]
        show min k2 cs.length + 1 + _ ≤ _
        omega
end
end Sn
namespace Sn
open PySem PySem.Spec PyProof.Rows L2 TL
theorem ll_K43g_0 : ("" : Str).length = 0 := by decide +kernel
local macro_rules | `(tactic| infer_instance) => `(tactic| simp only [ty_tt, ty_ts, ty_ti, ty_tl, ty_ss, ty_st])
local macro_rules | `(tactic| infer_instance) => `(tactic| assumption)
local macro_rules | `(tactic| infer_instance) => `(tactic| dsimp only [List.set, wipeE])
local macro_rules | `(tactic| infer_instance) => `(tactic| ((with_reducible refine i_pg ?_ ?_); · assumption))
local macro_rules | `(tactic| infer_instance) => `(tactic| ((with_reducible refine i_askW ?_ ?_); · assumption))
local macro_rules | `(tactic| infer_instance) => `(tactic| ((with_reducible refine i_askN ?_ ?_); · assumption))
local macro_rules | `(tactic| infer_instance) => `(tactic| ((with_reducible refine i_okT ?_ ?_); · assumption))
local macro_rules | `(tactic| infer_instance) => `(tactic| ((with_reducible refine i_cStrF ?_ ?_); · decide +kernel))
local macro_rules | `(tactic| infer_instance) => `(tactic| ((with_reducible refine i_cStrT ?_ ?_); · rfl))
local macro_rules | `(tactic| infer_instance) => `(tactic| ((with_reducible refine i_cGF ?_ ?_); · rfl))
local macro_rules | `(tactic| infer_instance) => `(tactic| ((with_reducible refine i_cGT ?_ ?_); · rfl))
local macro_rules | `(tactic| infer_instance) => `(tactic| ((with_reducible refine i_cIntF ?_ ?_); · rfl))
local macro_rules | `(tactic| infer_instance) => `(tactic| ((with_reducible refine i_cIntT ?_ ?_); · rfl))
local macro_rules | `(tactic| infer_instance) => `(tactic| ((with_reducible apply i_appPop); (focus rfl); (focus rfl)))
local macro_rules | `(tactic| infer_instance) => `(tactic| ((with_reducible apply i_insert); · rfl))
local macro_rules | `(tactic| infer_instance) => `(tactic| ((with_reducible refine i_look2F ?_ ?_); · decide +kernel))
local macro_rules | `(tactic| infer_instance) => `(tactic| ((with_reducible refine i_look2T ?_ ?_); · rfl))
local macro_rules | `(tactic| infer_instance) => `(tactic| ((with_reducible refine i_lookF ?_ ?_); · decide +kernel))
local macro_rules | `(tactic| infer_instance) => `(tactic| ((with_reducible refine i_lookT ?_ ?_); · rfl))
local macro_rules | `(tactic| infer_instance) => `(tactic| ((with_reducible refine i_exdict ?_ ?_); · rfl))
local macro_rules | `(tactic| infer_instance) => `(tactic| ((with_reducible refine i_dget2 ?_ ?_); · rfl))
local macro_rules | `(tactic| infer_instance) => `(tactic| ((with_reducible refine i_dget ?_ ?_); · rfl))
local macro_rules | `(tactic| infer_instance) => `(tactic| ((with_reducible refine i_dispQ ?_ ?_); · decide +kernel))
local macro_rules | `(tactic| infer_instance) => `(tactic| ((with_reducible refine i_le ?_ ?_); · (simp only [List.length_append, List.length_map, List.length_replicate, List.length_cons, List.length_nil, sizeLine_eq]; omega)))
local macro_rules | `(tactic| infer_instance) => `(tactic| ((with_reducible refine i_lt ?_ ?_); · (simp only [List.length_append, List.length_map, List.length_replicate, List.length_cons, List.length_nil, sizeLine_eq]; omega)))
local macro_rules | `(tactic| infer_instance) => `(tactic| ((with_reducible refine i_addL ?_ ?_); · (simp only [List.length_append, List.length_map, List.length_replicate, List.length_cons, List.length_nil, sizeLine_eq]; omega)))
local macro_rules | `(tactic| infer_instance) => `(tactic| ((with_reducible refine i_addS ?_ ?_); · (simp only [len_app, sizeLine_eq, ll_emp, ll_K43g_0]; omega)))
local macro_rules | `(tactic| infer_instance) => `(tactic| ((with_reducible refine i_fmtS ?_ ?_); · (simp only [len_app, sizeLine_eq, ll_emp, ll_K43g_0]; omega)))
local macro_rules | `(tactic| infer_instance) => `(tactic| ((with_reducible refine i_le ?_ ?_); · (simp only [len_app, sizeLine_eq, ll_emp, ll_K43g_0]; omega)))
local macro_rules | `(tactic| infer_instance) => `(tactic| ((with_reducible apply i_ty); · rfl))
local macro_rules | `(tactic| infer_instance) => `(tactic| ((with_reducible refine i_ninTf ?_ ?_ ?_); (focus rfl); (focus (decide +kernel))))
local macro_rules | `(tactic| infer_instance) => `(tactic| ((with_reducible refine i_ninTt ?_ ?_ ?_); (focus rfl); (focus (decide +kernel))))
local macro_rules | `(tactic| infer_instance) => `(tactic| ((with_reducible refine i_inLf ?_ ?_ ?_); (focus rfl); (focus (decide +kernel))))
local macro_rules | `(tactic| infer_instance) => `(tactic| ((with_reducible refine i_inLt ?_ ?_ ?_); (focus rfl); (focus (decide +kernel))))
local macro_rules | `(tactic| infer_instance) => `(tactic| ((with_reducible refine i_inTf ?_ ?_ ?_); (focus rfl); (focus (decide +kernel))))
local macro_rules | `(tactic| infer_instance) => `(tactic| ((with_reducible refine i_inTt ?_ ?_ ?_); (focus rfl); (focus (decide +kernel))))
local macro_rules | `(tactic| infer_instance) => `(tactic| ((with_reducible apply i_extend); · rfl))
local macro_rules | `(tactic| infer_instance) => `(tactic| ((with_reducible apply i_append); · rfl))
local macro_rules | `(tactic| infer_instance) => `(tactic| ((with_reducible refine i_notNf ?_ ?_); · rfl))
local macro_rules | `(tactic| infer_instance) => `(tactic| ((with_reducible refine i_notNt ?_ ?_); · rfl))
local macro_rules | `(tactic| infer_instance) => `(tactic| ((with_reducible refine i_isNf ?_ ?_); · rfl))
local macro_rules | `(tactic| infer_instance) => `(tactic| ((with_reducible refine i_isNt ?_ ?_); · rfl))
local macro_rules | `(tactic| infer_instance) => `(tactic| ((with_reducible apply i_ixL); · rfl))
local macro_rules | `(tactic| infer_instance) => `(tactic| ((with_reducible apply i_ixT); · rfl))
local macro_rules | `(tactic| infer_instance) => `(tactic| ((with_reducible refine i_neF ?_ ?_); · decide +kernel))
local macro_rules | `(tactic| infer_instance) => `(tactic| ((with_reducible refine i_neT ?_ ?_); · rfl))
local macro_rules | `(tactic| infer_instance) => `(tactic| ((with_reducible refine i_neF ?_ ?_); · assumption))
local macro_rules | `(tactic| infer_instance) => `(tactic| ((with_reducible refine i_eqF ?_ ?_); · assumption))
local macro_rules | `(tactic| infer_instance) => `(tactic| ((with_reducible refine i_eqF ?_ ?_); · decide +kernel))
local macro_rules | `(tactic| infer_instance) => `(tactic| ((with_reducible refine i_eqT ?_ ?_); · rfl))
local macro_rules | `(tactic| infer_instance) => `(tactic| ((with_reducible refine i_dNF ?_ ?_); (focus first | decide | omega | rfl | (simp only [List.length_cons, List.length_nil]; omega))))
local macro_rules | `(tactic| infer_instance) => `(tactic| ((with_reducible refine i_dNT ?_ ?_); (focus first | decide | omega | rfl | (simp only [List.length_cons, List.length_nil]; omega))))
local macro_rules | `(tactic| infer_instance) => `(tactic| ((with_reducible refine i_dF ?_ ?_); (focus first | decide | omega | rfl | (simp only [List.length_cons, List.length_nil]; omega))))
local macro_rules | `(tactic| infer_instance) => `(tactic| ((with_reducible refine i_dT ?_ ?_); (focus first | decide | omega | rfl | (simp only [List.length_cons, List.length_nil]; omega))))
local macro_rules | `(tactic| infer_instance) => `(tactic| ((with_reducible apply i_var); · rfl))
local macro_rules | `(tactic| infer_instance) => `(tactic| ((with_reducible refine i_fs ?_ ?_); (focus first | decide | (simp only [List.length_cons, List.length_nil]; omega))))
local macro_rules | `(tactic| infer_instance) => `(tactic| ((with_reducible apply i_exLk); · rfl))
local macro_rules | `(tactic| infer_instance) => `(tactic| ((with_reducible apply i_exE); · rfl))
local macro_rules | `(tactic| infer_instance) => `(tactic| ((with_reducible refine i_dinK ?_ ?_); · rfl))
local macro_rules | `(tactic| infer_instance) => `(tactic| with_reducible refine i_exL1 ?_)
local macro_rules | `(tactic| infer_instance) => `(tactic| ((with_reducible apply i_fld); · rfl))
local macro_rules | `(tactic| infer_instance) => `(tactic| with_reducible refine i_exI ?_)
local macro_rules | `(tactic| infer_instance) => `(tactic| ((with_reducible apply i_exD); · rfl))
local macro_rules | `(tactic| infer_instance) => `(tactic| ((with_reducible apply i_exK); · rfl))
local macro_rules | `(tactic| infer_instance) => `(tactic| ((with_reducible apply i_exF); · rfl))
local macro_rules | `(tactic| infer_instance) => `(tactic| (with_reducible refine St.go ?_))
def drD (e : List D × Nat) : D := .tuple (e.1.drop e.2)
def vfFirst43 : VF := fun ds r Q => ∃ rows legs : List (List D), ds = [.list (rows.map .tuple), .list (legs.map .tuple), .int 100] ∧ GoodR rows legs ∧ Q (.list ((ansAll rows legs).take 100)) r
theorem ch_shape {k : Nat} {cs : List D} (h : ∀ d ∈ cs, ChK k d) : SeqAt.shaped (.tuple cs) = true := by
  have key : ∀ cs : List D, (∀ d ∈ cs, ChK k d) → PyData.canLayAll0 cs = true ∧ PyData.depthAll cs = 0 := by
    intro cs
    induction cs with
    | nil => intro _; exact ⟨by simp [PyData.canLayAll0], by simp [PyData.depthAll]⟩
    | cons d cs ih =>
      intro h
      obtain ⟨h1, h2⟩ := ih fun x hx => h x (List.mem_cons_of_mem _ hx)
      rcases h d List.mem_cons_self with ⟨c, rfl, _⟩ | ⟨j, rfl, _⟩
      · have hz : PyData.strOk (sg c) = true := by
          simp [PyData.strOk, sg]
          omega
        exact ⟨by simp [PyData.canLayAll0, PyData.canLay0, h1, hz], by simp [PyData.depthAll, PyData.depth, h2]⟩
      · exact ⟨by simp [PyData.canLayAll0, PyData.canLay0, h1], by simp [PyData.depthAll, PyData.depth, h2]⟩
  obtain ⟨h1, h2⟩ := key cs h
  exact shp (by simp [PyData.canLay0, h1]) (by simp [PyData.depth, h2])
theorem cut_1 (d : D) (l : List D) : cutL (d :: l) (some 1) none = l := by
  have h : cutL (d :: l) (some ((1 : Nat) : Int)) none = (d :: l).drop 1 := by
    unfold cutL
    rw [HT.sIx_none, HT.sIx_nat, List.take_of_length_le (by rw [List.length_drop]; exact Nat.le_refl _), Nat.min_eq_left (by rw [List.length_cons]; omega)]
  exact h
theorem a0 (d : D) (l : List D) : atI (d :: l) 0 = some d := atI_nat (j := 0) rfl
section
variable {P : Program} {w : World} {K : PySem.W.Frag} {mg : Str → Option Value} {base : Heap}
theorem vok_first43 (T : Txt K mg) : FnOk P w K mg base CX0 2 T.f_law_first_answers T.fd_law_first_answers ["_law_lines", "_law_ways", "_law_most"] (spV K mF vfFirst43) := by
  refine okV (M := mF) (O' := []) T.F_law_first_answers sc_law_first_answers ?_ (fun cdv A outer s H E hr => (vss_cons (vs_par2OO (i := 3) (j := 4) (O' := [4, 3]) (by rfl) sc_law_first_answers.nd rfl rfl (by decide) rfl rfl (ve_list (by rfl) T.z_list (vab_cons (ve_var (pv 1)).vb vab_nil)) (ve_lst va_nil) (by rfl) (by decide) (by intro k; simp))
      (vss_cons (vs_while PassesOwn.never (vw_and (vt_cmp (cp_ne hr.units) (vb_var (pv 3)) (ve_lst va_nil).vb) (vw_and1 (vt_cmp (cp_lt) (ve_len (by rfl) T.z_len (vab_cons (vb_var (pv 4)) vab_nil)).vb (ve_var (pv 2)).vb))).vt
        (vss_cons (vsm_set (i := 5) sc_law_first_answers.nd rfl (Or.inl rfl) (em_pop0 (i := 3) (pe_bm PySem.F.plainAttrs_list PySem.F.slot_list_pop PySem.F.type_list_pop mt_popAt (pv 3) (pa_cons pe_int pa_nil))))
      (vss_cons (vs_if (vw_and (vt_cmp (cp_ne hr.units) (ve_var (pv 5)).vb (ve_tup va_nil).vb) (vw_and1 (vt_val (ve_isi (Ts := "str") (by decide +kernel) (by decide +kernel) (by rfl) T.z_isinstance (by rfl) T.z_str (ve_ix (ve_var (pv 5)).vb ve_int.vb).vb).ve))).vt
        (vss_one (vs_append (i := 4) (pe_bm PySem.F.plainAttrs_list PySem.F.slot_list_append PySem.F.type_list_append mt_append (pv 4) (pa_cons (ve_ix (ve_var (pv 5)).vb ve_int.vb) pa_nil))))
        (vss_one (vs_if (vt_cmp (cp_ne hr.units) (ve_var (pv 5)).vb (ve_tup va_nil).vb)
        (vss_one (vs_setO (i := 3) sc_law_first_answers.nd rfl (Or.inl rfl) (ve_add (ve_lst (va_cons (ve_ix (ve_var (pv 0)).vb (ve_ix (ve_var (pv 5)).vb ve_int.vb).vb) (va_cons (ve_slice (ve_var (pv 5)).vb (vo_some ve_int.vb) vo_none).ve va_nil))).vb (vb_var (pv 3)))))
        vss_nil)))
      (vss_one (vs_if (vw_and (vt_cmp (cp_ne hr.units) (ve_var (pv 5)).vb (ve_tup va_nil).vb) (vw_and1 (vt_val (ve_isi (Ts := "str") (by decide +kernel) (by decide +kernel) (by rfl) T.z_isinstance (by rfl) T.z_str (ve_ix (ve_var (pv 5)).vb ve_int.vb).vb).ve))).vt
        (vss_one (vs_setO (i := 3) sc_law_first_answers.nd rfl (Or.inl rfl) (ve_add (ve_lst (va_cons (ve_slice (ve_var (pv 5)).vb (vo_some ve_int.vb) vo_none).ve va_nil)).vb (vb_var (pv 3)))))
        vss_nil)))))
      (vss_one (vs_retVF (pv 4)))))) ?_
  · rintro ds r Q ⟨rows, legs, rfl, _⟩
    rfl
  · rintro ds r Q ⟨rows, legs, rfl, g, q⟩
    rw [show startV n_law_first_answers [.list (rows.map .tuple), .list (legs.map .tuple), .int 100] = [some (.list (rows.map .tuple)), some (.list (legs.map .tuple)), some (.int 100), none, none, none] from rfl]
    repeat infer_instance
    refine ⟨fun m ρ r' => ∃ (b : Nat) (st : List (List D × Nat)) (done : List D) (v5 : Option D), remS (stL rows) st ≤ m ∧ Stk rows.length legs.length b st ∧ ρ = [some (.list (rows.map .tuple)), some (.list (legs.map .tuple)), some (.int 100), some (.list (st.map drD)), some (.list done), v5] ∧ r = r' ∧ done ++ remA (ansL rows) st = ansAll rows legs ∧ done.length ≤ 100, ⟨_, rows.length, legs.map fun l => (l, 0), [], none, Nat.le_refl _, .base (fun e he => ?_) (by rw [List.length_map]; exact Nat.le_refl _), ?_, rfl, ?_, by simp⟩, ?_⟩
    · obtain ⟨l, hl, rfl⟩ := List.mem_map.mp he
      exact g.2.2 l hl
    · rw [List.map_map]; rfl
    · unfold remA ansAll
      rw [List.flatMap_map]; rfl
    rintro m ρ _ ⟨b, st, done, v5, hm, hs, rfl, rfl, hd, hk⟩
    cases st with
    | nil =>
      repeat infer_instance
      refine i_neNil ⟨false, rfl, ?_⟩
      repeat infer_instance
      have ed : done = ansAll rows legs := by
        rw [← hd]
        show done = done ++ []
        rw [List.append_nil]
      rw [← ed, List.take_of_length_le hk] at q
      exact q
    | cons e st =>
      obtain ⟨cs, t⟩ := e
      obtain ⟨hch, ⟨b', hs'⟩, hs2⟩ := hs.top
      have hlen := hs.len
      repeat infer_instance
      refine i_neNil ⟨true, rfl, ?_⟩
      repeat infer_instance
      by_cases hf : done.length < 100
      · rw [if_pos (decide_eq_true (by omega))]
        refine ⟨_, fun ρ' r' h => h, ?_⟩
        have hsh : SeqAt.shaped (.tuple (cs.drop t)) = true := ch_shape (k := b) fun d hd => hch.2 d (List.mem_of_mem_drop hd)
        repeat infer_instance
        refine ⟨.tuple (cs.drop t), st.map drD, rfl, ?_⟩
        repeat infer_instance
        refine i_neNilT hsh ?_
        by_cases ht : t < cs.length
        · obtain ⟨d, hdt⟩ : ∃ d, cs[t]? = some d := ⟨_, List.getElem?_eq_getElem ht⟩
          have hcd := hch.2 d (List.mem_of_getElem? hdt)
          have edr : cs.drop t = d :: cs.drop (t + 1) := by
            obtain ⟨h1, h2⟩ := List.getElem?_eq_some_iff.mp hdt
            rw [← h2]
            exact List.drop_eq_getElem_cons ht
          have hms : remS (stL rows) ((cs, t) :: st) = 1 + stC (stL rows) d + stCs (stL rows) (cs.drop (t + 1)) + remS (stL rows) st := by
            unfold remS stCs
            rw [List.map_cons, List.sum_cons]
            show 1 + ((cs.drop t).map _).sum + _ = _
            rw [edr, List.map_cons, List.sum_cons]
            omega
          have hms1 : remS (stL rows) ((cs, t + 1) :: st) = 1 + stCs (stL rows) (cs.drop (t + 1)) + remS (stL rows) st := by
            unfold remS
            rw [List.map_cons, List.sum_cons]
          have hra : remA (ansL rows) ((cs, t) :: st) = ansC (ansL rows) d ++ remA (ansL rows) ((cs, t + 1) :: st) := by
            unfold remA
            rw [List.flatMap_cons, List.flatMap_cons]
            show ansCs _ (cs.drop t) ++ _ = _
            rw [edr]
            unfold ansCs
            rw [List.flatMap_cons, List.append_assoc]
          rw [edr] at hsh ⊢
          refine ⟨true, rfl, ?_⟩
          rw [if_pos rfl]
          rcases hcd with ⟨c, rfl, hc1, hc2⟩ | ⟨j, rfl, hj⟩
          · repeat infer_instance
            refine i_ixT (a0 _ _) ?_
            repeat infer_instance
            refine i_ixT (a0 _ _) ?_
            repeat infer_instance
            refine i_neNilT hsh ⟨true, rfl, ?_⟩
            rw [if_pos rfl]
            repeat infer_instance
            refine i_ixT (a0 _ _) ?_
            repeat infer_instance
            rw [cut_1]
            refine i_addL (by rw [List.length_map, sizeLine_eq]; have h1 := g.1.1; have h2 := g.2.1; rw [List.length_cons] at hlen; show 1 + _ ≤ _; omega) ⟨rfl, ?_⟩
            refine ⟨m - 1, by omega, b, (cs, t + 1) :: st, done ++ [.str (sg c)], _, (by rw [hms1]; rw [hms] at hm; have : stC (stL rows) (PyData.str (sg c)) = 1 := rfl; omega), hs2 _, rfl, trivial, ?_, by rw [List.length_append]; show _ + 1 ≤ _; omega⟩
            rw [← hd, hra, List.append_assoc]; rfl
          · repeat infer_instance
            refine i_ixT (a0 _ _) ?_
            repeat infer_instance
            rw [if_neg (by decide +kernel)]
            repeat infer_instance
            refine i_neNilT hsh ⟨true, rfl, ?_⟩
            rw [if_pos rfl]
            repeat infer_instance
            refine i_ixT (a0 _ _) ?_
            repeat infer_instance
            obtain ⟨rj, hrj⟩ : ∃ rj, rows[j]? = some rj := ⟨_, List.getElem?_eq_getElem (by omega)⟩
            have haj := ansL_at g.1 hrj
            have hsj := stL_at g.1 hrj
            have hac : ansC (ansL rows) (PyData.int (j : Int)) = ansCs (ansL rows) rj := by
              show (ansL rows).getD (j : Int).toNat [] = _
              rw [Int.toNat_natCast, List.getD_eq_getElem?_getD, haj]; rfl
            have hst : stC (stL rows) (PyData.int (j : Int)) = 2 + stCs (stL rows) rj := by
              show 2 + (stL rows).getD (j : Int).toNat 0 = _
              rw [Int.toNat_natCast, List.getD_eq_getElem?_getD, hsj]; rfl
            refine i_ixL (d := .tuple rj) (atI_nat (by rw [List.getElem?_map, hrj]; rfl)) ?_
            repeat infer_instance
            rw [cut_1]
            refine i_addL (by rw [List.length_map, sizeLine_eq]; have h1 := g.1.1; have h2 := g.2.1; rw [List.length_cons] at hlen; show 2 + _ ≤ _; omega) ⟨rfl, ?_⟩
            repeat infer_instance
            refine i_neNilT hsh ⟨true, rfl, ?_⟩
            rw [if_pos rfl]
            repeat infer_instance
            refine i_ixT (a0 _ _) ?_
            repeat infer_instance
            rw [if_neg (by decide +kernel)]
            repeat infer_instance
            have hm2 : remS (stL rows) ((rj, 0) :: (cs, t + 1) :: st) = 1 + stCs (stL rows) rj + remS (stL rows) ((cs, t + 1) :: st) := by
              unfold remS
              rw [List.map_cons, List.sum_cons]; rfl
            refine ⟨m - 1, by omega, j, (rj, 0) :: (cs, t + 1) :: st, done, _, (by rw [hm2, hms1]; rw [hms, hst] at hm; omega), .push (hs2 _) hj (g.1.2 j rj hrj), rfl, trivial, ?_, hk⟩
            rw [← hd, hra, hac]; rfl
        · have hdr : cs.drop t = [] := List.drop_eq_nil_of_le (by omega)
          have hms : remS (stL rows) ((cs, t) :: st) = 1 + 0 + remS (stL rows) st := by
            unfold remS
            rw [List.map_cons, List.sum_cons]
            show 1 + stCs _ (cs.drop t) + _ = _
            rw [hdr]; rfl
          have hra : remA (ansL rows) ((cs, t) :: st) = remA (ansL rows) st := by
            unfold remA
            rw [List.flatMap_cons]
            show ansCs _ (cs.drop t) ++ _ = _
            rw [hdr]; rfl
          rw [hdr] at hsh ⊢
          refine ⟨false, rfl, ?_⟩
          rw [if_neg (by decide)]
          repeat infer_instance
          refine i_neNilT hsh ⟨false, rfl, ?_⟩
          rw [if_neg (by decide)]
          repeat infer_instance
          refine i_neNilT hsh ⟨false, rfl, ?_⟩
          rw [if_neg (by decide)]
          repeat infer_instance
          exact ⟨m - 1, by omega, b', st, done, _, by omega, hs', rfl, trivial, by rw [← hra]; exact hd, hk⟩
      · rw [if_neg (fun z => hf (by have := of_decide_eq_true z; omega))]
        have el : done.length = 100 := by omega
        repeat infer_instance
        rw [← hd, ← el, List.take_left] at q
        exact q
end
end Sn
namespace Sn
open PySem PySem.Spec PyProof.Rows L2 TL
theorem ll_K43h_0 : ("" : Str).length = 0 := by decide +kernel
theorem ll_K43h_1 : ("a" : Str).length = 1 := by decide +kernel
theorem ll_K43h_2 : ("b" : Str).length = 1 := by decide +kernel
theorem ll_K43h_3 : ("client" : Str).length = 6 := by decide +kernel
theorem ll_K43h_4 : ("m" : Str).length = 1 := by decide +kernel
theorem ll_K43h_5 : ("m.a" : Str).length = 3 := by decide +kernel
local macro_rules | `(tactic| infer_instance) => `(tactic| simp only [ty_tt, ty_ts, ty_ti, ty_tl, ty_ss, ty_st])
local macro_rules | `(tactic| infer_instance) => `(tactic| assumption)
local macro_rules | `(tactic| infer_instance) => `(tactic| dsimp only [List.set, wipeE])
local macro_rules | `(tactic| infer_instance) => `(tactic| ((with_reducible refine i_pg ?_ ?_); · assumption))
local macro_rules | `(tactic| infer_instance) => `(tactic| ((with_reducible refine i_askW ?_ ?_); · assumption))
local macro_rules | `(tactic| infer_instance) => `(tactic| ((with_reducible refine i_askN ?_ ?_); · assumption))
local macro_rules | `(tactic| infer_instance) => `(tactic| ((with_reducible refine i_okT ?_ ?_); · assumption))
local macro_rules | `(tactic| infer_instance) => `(tactic| ((with_reducible refine i_cStrF ?_ ?_); · decide +kernel))
local macro_rules | `(tactic| infer_instance) => `(tactic| ((with_reducible refine i_cStrT ?_ ?_); · rfl))
local macro_rules | `(tactic| infer_instance) => `(tactic| ((with_reducible refine i_cGF ?_ ?_); · rfl))
local macro_rules | `(tactic| infer_instance) => `(tactic| ((with_reducible refine i_cGT ?_ ?_); · rfl))
local macro_rules | `(tactic| infer_instance) => `(tactic| ((with_reducible refine i_cIntF ?_ ?_); · rfl))
local macro_rules | `(tactic| infer_instance) => `(tactic| ((with_reducible refine i_cIntT ?_ ?_); · rfl))
local macro_rules | `(tactic| infer_instance) => `(tactic| ((with_reducible apply i_appPop); (focus rfl); (focus rfl)))
local macro_rules | `(tactic| infer_instance) => `(tactic| ((with_reducible apply i_insert); · rfl))
local macro_rules | `(tactic| infer_instance) => `(tactic| ((with_reducible refine i_look2F ?_ ?_); · decide +kernel))
local macro_rules | `(tactic| infer_instance) => `(tactic| ((with_reducible refine i_look2T ?_ ?_); · rfl))
local macro_rules | `(tactic| infer_instance) => `(tactic| ((with_reducible refine i_lookF ?_ ?_); · decide +kernel))
local macro_rules | `(tactic| infer_instance) => `(tactic| ((with_reducible refine i_lookT ?_ ?_); · rfl))
local macro_rules | `(tactic| infer_instance) => `(tactic| ((with_reducible refine i_exdict ?_ ?_); · rfl))
local macro_rules | `(tactic| infer_instance) => `(tactic| ((with_reducible refine i_dget2 ?_ ?_); · rfl))
local macro_rules | `(tactic| infer_instance) => `(tactic| ((with_reducible refine i_dget ?_ ?_); · rfl))
local macro_rules | `(tactic| infer_instance) => `(tactic| ((with_reducible refine i_dispQ ?_ ?_); · decide +kernel))
local macro_rules | `(tactic| infer_instance) => `(tactic| ((with_reducible refine i_le ?_ ?_); · (simp only [List.length_append, List.length_map, List.length_replicate, List.length_cons, List.length_nil, sizeLine_eq]; omega)))
local macro_rules | `(tactic| infer_instance) => `(tactic| ((with_reducible refine i_lt ?_ ?_); · (simp only [List.length_append, List.length_map, List.length_replicate, List.length_cons, List.length_nil, sizeLine_eq]; omega)))
local macro_rules | `(tactic| infer_instance) => `(tactic| ((with_reducible refine i_addL ?_ ?_); · (simp only [List.length_append, List.length_map, List.length_replicate, List.length_cons, List.length_nil, sizeLine_eq]; omega)))
local macro_rules | `(tactic| infer_instance) => `(tactic| ((with_reducible refine i_addS ?_ ?_); · (simp only [len_app, sizeLine_eq, ll_emp, ll_K43h_0, ll_K43h_1, ll_K43h_2, ll_K43h_3, ll_K43h_4, ll_K43h_5]; omega)))
local macro_rules | `(tactic| infer_instance) => `(tactic| ((with_reducible refine i_fmtS ?_ ?_); · (simp only [len_app, sizeLine_eq, ll_emp, ll_K43h_0, ll_K43h_1, ll_K43h_2, ll_K43h_3, ll_K43h_4, ll_K43h_5]; omega)))
local macro_rules | `(tactic| infer_instance) => `(tactic| ((with_reducible refine i_le ?_ ?_); · (simp only [len_app, sizeLine_eq, ll_emp, ll_K43h_0, ll_K43h_1, ll_K43h_2, ll_K43h_3, ll_K43h_4, ll_K43h_5]; omega)))
local macro_rules | `(tactic| infer_instance) => `(tactic| ((with_reducible apply i_ty); · rfl))
local macro_rules | `(tactic| infer_instance) => `(tactic| ((with_reducible refine i_ninTf ?_ ?_ ?_); (focus rfl); (focus (decide +kernel))))
local macro_rules | `(tactic| infer_instance) => `(tactic| ((with_reducible refine i_ninTt ?_ ?_ ?_); (focus rfl); (focus (decide +kernel))))
local macro_rules | `(tactic| infer_instance) => `(tactic| ((with_reducible refine i_inLf ?_ ?_ ?_); (focus rfl); (focus (decide +kernel))))
local macro_rules | `(tactic| infer_instance) => `(tactic| ((with_reducible refine i_inLt ?_ ?_ ?_); (focus rfl); (focus (decide +kernel))))
local macro_rules | `(tactic| infer_instance) => `(tactic| ((with_reducible refine i_inTf ?_ ?_ ?_); (focus rfl); (focus (decide +kernel))))
local macro_rules | `(tactic| infer_instance) => `(tactic| ((with_reducible refine i_inTt ?_ ?_ ?_); (focus rfl); (focus (decide +kernel))))
local macro_rules | `(tactic| infer_instance) => `(tactic| ((with_reducible apply i_extend); · rfl))
local macro_rules | `(tactic| infer_instance) => `(tactic| ((with_reducible apply i_append); · rfl))
local macro_rules | `(tactic| infer_instance) => `(tactic| ((with_reducible refine i_notNf ?_ ?_); · rfl))
local macro_rules | `(tactic| infer_instance) => `(tactic| ((with_reducible refine i_notNt ?_ ?_); · rfl))
local macro_rules | `(tactic| infer_instance) => `(tactic| ((with_reducible refine i_isNf ?_ ?_); · rfl))
local macro_rules | `(tactic| infer_instance) => `(tactic| ((with_reducible refine i_isNt ?_ ?_); · rfl))
local macro_rules | `(tactic| infer_instance) => `(tactic| ((with_reducible apply i_ixL); · rfl))
local macro_rules | `(tactic| infer_instance) => `(tactic| ((with_reducible apply i_ixT); · rfl))
local macro_rules | `(tactic| infer_instance) => `(tactic| ((with_reducible refine i_neF ?_ ?_); · decide +kernel))
local macro_rules | `(tactic| infer_instance) => `(tactic| ((with_reducible refine i_neT ?_ ?_); · rfl))
local macro_rules | `(tactic| infer_instance) => `(tactic| ((with_reducible refine i_neF ?_ ?_); · assumption))
local macro_rules | `(tactic| infer_instance) => `(tactic| ((with_reducible refine i_eqF ?_ ?_); · assumption))
local macro_rules | `(tactic| infer_instance) => `(tactic| ((with_reducible refine i_eqF ?_ ?_); · decide +kernel))
local macro_rules | `(tactic| infer_instance) => `(tactic| ((with_reducible refine i_eqT ?_ ?_); · rfl))
local macro_rules | `(tactic| infer_instance) => `(tactic| ((with_reducible refine i_dNF ?_ ?_); (focus first | decide | omega | rfl | (simp only [List.length_cons, List.length_nil]; omega))))
local macro_rules | `(tactic| infer_instance) => `(tactic| ((with_reducible refine i_dNT ?_ ?_); (focus first | decide | omega | rfl | (simp only [List.length_cons, List.length_nil]; omega))))
local macro_rules | `(tactic| infer_instance) => `(tactic| ((with_reducible refine i_dF ?_ ?_); (focus first | decide | omega | rfl | (simp only [List.length_cons, List.length_nil]; omega))))
local macro_rules | `(tactic| infer_instance) => `(tactic| ((with_reducible refine i_dT ?_ ?_); (focus first | decide | omega | rfl | (simp only [List.length_cons, List.length_nil]; omega))))
local macro_rules | `(tactic| infer_instance) => `(tactic| ((with_reducible apply i_var); · rfl))
local macro_rules | `(tactic| infer_instance) => `(tactic| ((with_reducible refine i_fs ?_ ?_); (focus first | decide | (simp only [List.length_cons, List.length_nil]; omega))))
local macro_rules | `(tactic| infer_instance) => `(tactic| ((with_reducible apply i_exLk); · rfl))
local macro_rules | `(tactic| infer_instance) => `(tactic| ((with_reducible apply i_exE); · rfl))
local macro_rules | `(tactic| infer_instance) => `(tactic| ((with_reducible refine i_dinK ?_ ?_); · rfl))
local macro_rules | `(tactic| infer_instance) => `(tactic| with_reducible refine i_exL1 ?_)
local macro_rules | `(tactic| infer_instance) => `(tactic| ((with_reducible apply i_fld); · rfl))
local macro_rules | `(tactic| infer_instance) => `(tactic| with_reducible refine i_exI ?_)
local macro_rules | `(tactic| infer_instance) => `(tactic| ((with_reducible apply i_exD); · rfl))
local macro_rules | `(tactic| infer_instance) => `(tactic| ((with_reducible apply i_exK); · rfl))
local macro_rules | `(tactic| infer_instance) => `(tactic| ((with_reducible apply i_exF); · rfl))
local macro_rules | `(tactic| infer_instance) => `(tactic| (with_reducible refine St.go ?_))
theorem strs_lay : ∀ {ds : List D}, (∀ x ∈ ds, ∃ z, x = PyData.str z ∧ PyData.strOk z = true) → PyData.canLayAll0 ds = true ∧ PyData.depthAll ds = 0
  | [], _ => ⟨by simp [PyData.canLayAll0], by simp [PyData.depthAll]⟩
  | d :: ds, h => by
    obtain ⟨h1, h2⟩ := strs_lay fun x hx => h x (List.mem_cons_of_mem _ hx)
    obtain ⟨z, rfl, hz⟩ := h d List.mem_cons_self
    exact ⟨by simp [PyData.canLayAll0, PyData.canLay0, h1, hz], by simp [PyData.depthAll, PyData.depth, h2]⟩
theorem ans_lay {rows legs : List (List D)} (g : GoodR rows legs) (n : Nat) : (PyData.list ((ansAll rows legs).take n)).canLay0 = true ∧ SeqAt.shaped (.list ((ansAll rows legs).take n)) = true := by
  obtain ⟨h1, h2⟩ := strs_lay fun x hx => ansAll_str g x (List.mem_of_mem_take (i := n) hx)
  have h3 : (PyData.list ((ansAll rows legs).take n)).canLay0 = true := by simp [PyData.canLay0, h1]
  exact ⟨h3, shp h3 (by simp [PyData.depth, h2])⟩
theorem i_min43 {i j : Int} {R : D → Prop} (q : R (.int (if j < i then j else i))) : dMin2 [.int i, .int j] R := q
theorem i_intT {R : D → Prop} (q : R (.int 1)) : dIntOf [.bool true] R := q
theorem i_intF {R : D → Prop} (q : R (.int 0)) : dIntOf [.bool false] R := q
theorem rowsK_app {rows : List (List D)} {cs : List D} (g : RowsK rows) (h : ChsK rows.length cs) (hl : rows.length < 2000) : RowsK (rows ++ [cs]) := ⟨by rw [List.length_append]; show _ + 1 ≤ _; omega, fun k c hk => by
  by_cases h1 : k < rows.length
  · rw [List.getElem?_append_left h1] at hk
    exact g.2 k c hk
  · rw [List.getElem?_append_right (by omega)] at hk
    have h2 := (List.getElem?_eq_some_iff.mp hk).1
    have h3 : k = rows.length := by simp at h2; omega
    subst h3
    rw [Nat.sub_self] at hk
    cases hk
    exact h⟩
section
variable {P : Program} {w : World} {K : PySem.W.Frag} {mg : Str → Option Value} {base : Heap}
def spLaw (K : PySem.W.Frag) : Sp := fun vs H Q _ => ∃ (a : Addr) (ns : List Int), vs = [.ref a] ∧ SqL K H a (ns.map V.int) ∧ ns.length ≤ 63 ∧ ∀ H', Q (.bl true) H'
theorem ok_law (T : Txt K mg) (hP : PrOk P) : FnG P w K mg base CX0 8 T.f_law T.fd_law ["_law_script"] (spLaw K) := by
  refine okG T.F_law sc_law (fun vs H Q E h => ?_) (fun cdv A outer s H vs Q E hgu hr h => ?_)
  · obtain ⟨a, ns, rfl, _⟩ := h
    rfl
  · obtain ⟨a, ns, rfl, hS, hl, k⟩ := h
    refine ⟨_, (pss_cons (ps_set (i := 1) sc_law.nd rfl (Or.inl rfl) (pe_call (ok_begun T) (hr.mono (by decide)) rfl T.g_law_begun T.F_law_begun.kp T.b_law_begun .nil pass0 (pa_cons (pv 0) pa_nil))) (show VSs _ mF [] [] [] _ _ from (vss_cons (vs_set (i := 2) sc_law.nd rfl (Or.inl rfl) (ve_call (vok_pick T) (hr.mono (by decide)) (by rfl) T.g_law_pick T.F_law_pick.kp T.b_law_pick (va_cons (ve_var (pv 1)) (va_cons (ve_lst (va_cons ve_int.ve (va_cons (ve_call (vok_take T) (hr.mono (by decide)) (by rfl) T.g_law_take T.F_law_take.kp T.b_law_take (va_cons (ve_var (pv 1)) (va_cons ve_int.ve va_nil))) (va_cons (ve_call (vok_take T) (hr.mono (by decide)) (by rfl) T.g_law_take T.F_law_take.kp T.b_law_take (va_cons (ve_var (pv 1)) (va_cons ve_int.ve va_nil))) (va_cons ve_int.ve va_nil))))).ve va_nil))))
      (vss_cons (vs_set (i := 3) sc_law.nd rfl (Or.inl rfl) (ve_cmp (cp_eq hr.units) (ve_call (vok_take T) (hr.mono (by decide)) (by rfl) T.g_law_take T.F_law_take.kp T.b_law_take (va_cons (ve_var (pv 1)) (va_cons ve_int.ve va_nil))).vb ve_int.vb).ve)
      (vss_cons (vs_par2OOc (i := 4) (j := 5) (O' := [5, 4]) rfl sc_law.nd rfl rfl (by decide) (Or.inl rfl) (Or.inr rfl) (ve_lst va_nil) (ve_lst va_nil) (by decide) (by intro k; simp))
      (vss_cons (vs_for (t := (.nm 6)) PassesOwn.never rfl (vi_rng1 (by rfl) T.z_range (vab_cons (ve_var (pv 2)).vb vab_nil)) (pg_name (i := 6) sc_law.nd rfl (Or.inl rfl))
        (vss_cons (vs_if (vt_cmp (cp_eq hr.units) (ve_var (pv 2)).vb ve_int.vb)
        (vss_one (vs_append (i := 4) (pe_bm PySem.F.plainAttrs_list PySem.F.slot_list_append PySem.F.type_list_append mt_append (pv 4) (pa_cons (vl_if (vt_cmp (cp_gt) (ve_var (pv 6)).vb ve_int.vb) (ve_slice (ve_tup (va_cons (ve_sub (ve_var (pv 6)).vb ve_int.vb).ve (va_cons ve_str.ve va_nil))).vb vo_none (vo_some (ve_add ve_int.vb (ve_intOf (by rfl) T.z_int (vab_cons (ve_cmp (cp_eq hr.units) (ve_mod (ve_var (pv 6)).vb ve_int.vb).vb ve_int.vb).vb vab_nil)).vb).vb)) (ve_tup (va_cons ve_str.ve va_nil))).ve pa_nil))))
        (vss_one (vs_append (i := 4) (pe_bm PySem.F.plainAttrs_list PySem.F.slot_list_append PySem.F.type_list_append mt_append (pv 4) (pa_cons (ve_call (vok_row43 T) (hr.mono (by decide)) (by rfl) T.g_law_row_of T.F_law_row_of.kp T.b_law_row_of (va_cons (ve_var (pv 1)) (va_cons (ve_var (pv 6)) (va_cons (ve_var (pv 3)) va_nil)))) pa_nil)))))
      (vss_one (vs_append (i := 5) (pe_bm PySem.F.plainAttrs_list PySem.F.slot_list_append PySem.F.type_list_append mt_append (pv 5) (pa_cons (ve_callR (vok_many43 T) (hr.mono (by decide)) (by rfl) T.g_law_many_of T.F_law_many_of.kp T.b_law_many_of (.l (.f .nil)) (vas_l (vb_var (pv 5)) (vas_f (ve_ix (vb_var (pv 4)) (ve_var (pv 6)).vb) vas_nil))) pa_nil))))))
      (vss_cons (vs_setN (i := 7) sc_law.nd rfl (Or.inl rfl) (ve_lst va_nil))
      (vss_cons (vs_for (t := (.nm 8)) PassesOwn.never rfl (vi_rng1 (by rfl) T.z_range (vab_cons (ve_call (vok_take T) (hr.mono (by decide)) (by rfl) T.g_law_take T.F_law_take.kp T.b_law_take (va_cons (ve_var (pv 1)) (va_cons ve_int.ve va_nil))).vb vab_nil)) (pg_name (i := 8) sc_law.nd rfl (Or.inl rfl))
        (vss_one (vs_append (i := 7) (pe_bm PySem.F.plainAttrs_list PySem.F.slot_list_append PySem.F.type_list_append mt_append (pv 7) (pa_cons (ve_if (vt_cmp (cp_lt) (ve_var (pv 2)).vb ve_int.vb) (ve_call (vok_row43 T) (hr.mono (by decide)) (by rfl) T.g_law_row_of T.F_law_row_of.kp T.b_law_row_of (va_cons (ve_var (pv 1)) (va_cons (ve_var (pv 2)) (va_cons (ve_var (pv 3)) va_nil)))) (ve_tup (va_cons (ve_sub (ve_var (pv 2)).vb ve_int.vb).ve va_nil)).ve) pa_nil)))))
      (vss_cons (vs_set (i := 9) sc_law.nd rfl (Or.inl rfl) (ve_sum rfl (by rfl) T.z_sum (vab_cons (vl_lcX (own := [("_law_leg", 14)]) (t := (.nm 14)) rfl sc_law.nd (vi_seqB (vb_var (pv 7))) (blkOk_by (N := n_law) (sc := defScope s_law) (by decide +kernel)) (fun _ _ _ _ _ => (pg_name (i := 14) sc_law.nd rfl (Or.inl rfl))) (fun _ _ _ _ _ => vpts_nil) (fun _ _ _ _ _ => (ve_callR (vok_many43 T) (hr.mono (by decide)) (by rfl) T.g_law_many_of T.F_law_many_of.kp T.b_law_many_of (.l (.f .nil)) (vas_l (vb_var (pv 5)) (vas_f (ve_var (pv 14)) vas_nil))))).vb vab_nil)).ve)
      (vss_cons (vs_set (i := 10) sc_law.nd rfl (Or.inl rfl) (ve_tuple (by rfl) T.z_tuple (vab_cons (vl_lcX (own := [("_law_row", 15)]) (t := (.nm 15)) rfl sc_law.nd (vi_seqB (vb_var (pv 4))) (blkOk_by (N := n_law) (sc := defScope s_law) (by decide +kernel)) (fun _ _ _ _ _ => (pg_name (i := 15) sc_law.nd rfl (Or.inl rfl))) (fun _ _ _ _ _ => vpts_nil) (fun _ _ _ _ _ => (ve_tup (va_cons ve_str.ve (va_cons (ve_tup (va_cons ve_str.ve va_nil)).ve (va_cons (ve_var (pv 15)) va_nil)))).ve)).vb vab_nil)).ve)
      (vss_cons (vs_set (i := 11) sc_law.nd rfl (Or.inl rfl) (vl_makeK4 T.mk_Route (vok_initR T) (hr.mono (by decide)) (by rfl) T.gC_Route (kb_route T) (ve_tuple (by rfl) T.z_tuple (vab_cons (vb_var (pv 7)) vab_nil)).ve (ve_var (pv 10)) (ve_tup (va_cons ve_str.ve va_nil)).ve (ve_tup (va_cons ve_str.ve (va_cons ve_str.ve (va_cons ve_str.ve va_nil)))).ve).ve)
      (vss_cons (vs_if (vw_or (vt_not (vt_val (ve_isi (Ts := "int") (by decide +kernel) (by decide +kernel) (by rfl) T.z_isinstance (by rfl) T.z_int (ve_fld T.cl_Route T.at_Route_count (ve_var (pv 11)).vb).vb).ve)) (vw_or (vt_val (ve_isi (Ts := "bool") (by decide +kernel) (by decide +kernel) (by rfl) T.z_isinstance (by rfl) T.z_bool (ve_fld T.cl_Route T.at_Route_count (ve_var (pv 11)).vb).vb).ve) (vw_or1 (vt_cmp (cp_ne hr.units) (ve_fld T.cl_Route T.at_Route_count (ve_var (pv 11)).vb).vb (ve_var (pv 9)).vb)))).vt
        (vss_one (vs_ret ve_bl.ve))
        vss_nil)
      (vss_cons (vs_frz (O1 := [5, 4]) 7 (vs_frz (O1 := [5]) 4 (vs_set (i := 12) sc_law.nd rfl (Or.inl rfl) (ve_call (vok_first43 T) (hr.mono (by decide)) (by rfl) T.g_law_first_answers T.F_law_first_answers.kp T.b_law_first_answers (va_cons (ve_var (pv 4)) (va_cons (ve_var (pv 7)) (va_cons ve_int.ve va_nil)))))))
      (vss_cons (vs_set (i := 13) sc_law.nd rfl (Or.inl rfl) (ve_callR (vok_told43 T) (hr.mono (by decide)) (by rfl) T.g_law_told T.F_law_told.kp T.b_law_told (.l (.f .nil)) (vas_l (ve_var (pv 11)).vb (vas_f ve_int.ve vas_nil))))
      (vss_one (vs_ret (ve_and (ve_cmp (cp_eq hr.units) (ve_slice (ve_var (pv 13)).vb vo_none (vo_some ve_int.vb)).vb (ve_var (pv 12)).vb).ve (ve_and (ve_cmp (cp_eq hr.units) (ve_len (by rfl) T.z_len (vab_cons (ve_var (pv 13)).vb vab_nil)).vb (ve_min2 rfl (by rfl) T.z_min (vab_cons (ve_var (pv 9)).vb (vab_cons ve_int.vb vab_nil))).vb).ve (ve_one (ve_cmp (cp_eq hr.units) (ve_callR (vok_told43 T) (hr.mono (by decide)) (by rfl) T.g_law_told T.F_law_told.kp T.b_law_told (.l (.f .nil)) (vas_l (ve_var (pv 11)).vb (vas_f ve_int.ve vas_nil))).vb (ve_var (pv 13)).vb).ve))))))))))))))))))), ?_⟩
    refine ⟨_, rfl, a, ns, rfl, hS, by omega, fun d g c H1 nd ng nc D1 s1 => lift_law hS s1 ng D1 k ?_⟩
    show (_ : VTS) lawEnd (some dScr :: some dSt :: List.replicate 14 none) _
    repeat infer_instance
    refine i_take (by show 0 ≤ _; omega) (by omega) (by omega) fun k0 hk0 => ?_
    repeat infer_instance
    refine i_take (by show 1 ≤ _; omega) (by omega) (by omega) fun k1 hk1 => ?_
    repeat infer_instance
    refine i_pickL (by show 2 ≤ _; omega) (by show 0 < 4; omega) (by show 4 ≤ 1000; omega) fun d9 hd9 => ?_
    obtain ⟨mn, rfl, hmn⟩ : ∃ mn : Nat, d9 = .int (mn : Int) ∧ (mn ≤ 40 ∨ mn = 1500) := by
      simp only [List.mem_cons, List.not_mem_nil, or_false] at hd9
      rcases hd9 with rfl | rfl | rfl | rfl
      · exact ⟨40, rfl, by omega⟩
      · exact ⟨k0, rfl, by omega⟩
      · exact ⟨k1, rfl, by omega⟩
      · exact ⟨1500, rfl, by omega⟩
    repeat infer_instance
    refine i_take (by show 3 ≤ _; omega) (by omega) (by omega) fun k2 hk2 => ?_
    repeat infer_instance
    refine ⟨(mn : Int), rfl, by omega, by omega, ?_⟩
    rw [Int.toNat_natCast]
    generalize hb : decide ((k2 : Int) = 0) = b
    refine i_loop (fun i ρ r' => ∃ (rows : List (List D)) (mm : Nat) (v6 : Option D), rows.length = i ∧ i ≤ mn ∧ RowsK rows ∧ r' = ⟨mm, [], ns.length⟩ ∧ mm ≤ 10 + 60 * i ∧ ρ = [some dScr, some dSt, some (.int (mn : Int)), some (.bool b), some (.list (rows.map .tuple)), some (.list ((cntsL rows).map fun n : Nat => .int (n : Int))), v6, none, none, none, none, none, none, none, none, none]) ⟨[], 4, none, rfl, by omega, ⟨by simp, fun k cs h => nomatch h⟩, rfl, by omega, rfl⟩ ?_ ?_
    · rintro i d ρ _ nx hd ⟨rows, mm, v6, hrl, hi, hR, rfl, hmm, rfl⟩ hI
      have hi2 : i < mn := by
        have h := (List.getElem?_eq_some_iff.mp hd).1
        simpa [rngD] using h
      have hd2 : d = .int (i : Int) := by
        unfold rngD at hd
        rw [List.getElem?_map, List.getElem?_range hi2] at hd
        simpa using hd.symm
      subst hd2
      have fin : ∀ (cs : List D) (mm2 : Nat) (bk : En → Rs → Prop) (rt : D → Rs → Prop), ChsK i cs → mm2 ≤ mm + 60 → vAppend 5 (vCallA vfMany43 [ArgV.l (vVar 5), ArgV.f (vOp dIx (vVar 4) (vVar 6))]) { nx := nx, rt := rt, bk := bk, ct := nx } [some dScr, some dSt, some (.int (mn : Int)), some (.bool b), some (.list (rows.map .tuple ++ [.tuple cs])), some (.list ((cntsL rows).map fun n : Nat => .int (n : Int))), some (.int (i : Int)), none, none, none, none, none, none, none, none, none] ⟨mm2, [], ns.length⟩ := fun cs mm2 bk rt hc hm2 => by
        have hcl : (cntsL rows).length = i := by rw [cntsL_len]; exact hrl
        repeat infer_instance
        refine i_ixL (d := .tuple cs) (atI_nat (by rw [List.getElem?_append_right (by rw [List.length_map]; omega), List.length_map, hrl, Nat.sub_self]; rfl)) ?_
        repeat infer_instance
        refine ⟨cntsL rows, cs, rfl, by rw [hcl]; exact hc, by rw [List.length_map, hcl, sizeLine_eq]; omega, ?_⟩
        have e4 : rows.map PyData.tuple ++ [.tuple cs] = (rows ++ [cs]).map .tuple := by rw [List.map_append]; rfl
        have e5 : ((cntsL rows).map fun n : Nat => PyData.int (n : Int)) ++ [.int (sumN (cntsL rows) cs : Int)] = (cntsL (rows ++ [cs])).map fun n : Nat => PyData.int (n : Int) := by rw [cntsL_app, List.map_append]; rfl
        rw [e4, e5]
        exact hI _ _ ⟨rows ++ [cs], mm2, some (.int (i : Int)), by rw [List.length_append, hrl]; rfl, by omega, rowsK_app hR (by rw [hrl]; exact hc) (by omega), rfl, by omega, rfl⟩
      generalize vAppend 5 (vCallA vfMany43 [ArgV.l (vVar 5), ArgV.f (vOp dIx (vVar 4) (vVar 6))]) = S at fin ⊢
      repeat infer_instance
      by_cases h15 : mn = 1500
      · rw [if_pos (decide_eq_true (by omega))]
        repeat infer_instance
        by_cases hi0 : i = 0
        · rw [if_neg (fun z => by have := of_decide_eq_true z; omega)]
          repeat infer_instance
          refine fin [.str "a"] mm _ _ ⟨by simp, fun d hd => ?_⟩ (by omega)
          rw [List.mem_singleton.mp hd]
          exact .inl ⟨97, by rfl, by omega, by omega⟩
        · rw [if_pos (decide_eq_true (by omega))]
          repeat infer_instance
          have f1 : ((i : Int)).fmod 90 = ((i % 90 : Nat) : Int) := by
            rw [Int.fmod_eq_emod_of_nonneg _ (by omega)]; rfl
          refine ⟨by show (90 : Int) ≠ 0; decide, ?_⟩
          simp only [f1]
          repeat infer_instance
          have hk : ∀ cs : List D, cs = [.int ((i : Int) - 1)] ∨ cs = [.int ((i : Int) - 1), .str "b"] → ChsK i cs := fun cs hc => by
            have e9 : (PyData.int ((i : Int) - 1)) = .int ((i - 1 : Nat) : Int) := by congr 1; omega
            have c1 : ChK i (.int ((i : Int) - 1)) := .inr ⟨i - 1, e9, by omega⟩
            have c2 : ChK i (.str "b") := .inl ⟨98, rfl, by omega, by omega⟩
            rcases hc with rfl | rfl
            · exact ⟨by simp, fun d hd => by rw [List.mem_singleton.mp hd]; exact c1⟩
            · refine ⟨by simp, fun d hd => ?_⟩
              rcases List.mem_cons.mp hd with rfl | hd
              · exact c1
              · rw [List.mem_singleton.mp hd]; exact c2
          by_cases h7 : ((i % 90 : Nat) : Int) = 7
          · rw [decide_eq_true h7]
            refine i_intT ?_
            repeat infer_instance
            rw [show cutL [PyData.int ((i : Int) - 1), PyData.str "b"] Option.none (some (1 + 1)) = [PyData.int ((i : Int) - 1), PyData.str "b"] from rfl]
            exact fin _ mm _ _ (hk _ (.inr rfl)) (by omega)
          · rw [decide_eq_false h7]
            refine i_intF ?_
            repeat infer_instance
            rw [show cutL [PyData.int ((i : Int) - 1), PyData.str "b"] Option.none (some (1 + 0)) = [PyData.int ((i : Int) - 1)] from rfl]
            exact fin _ mm _ _ (hk _ (.inl rfl)) (by omega)
      · rw [if_neg (fun z => h15 (by have := of_decide_eq_true z; omega))]
        repeat infer_instance
        refine ⟨mm, [], ns.length, i, b, rfl, rfl, by omega, by omega, fun cs m' hc hcl hm' => ?_⟩
        exact ⟨by rw [List.length_map, sizeLine_eq]; omega, fin cs m' _ _ hc (by omega)⟩
    · rintro ρ _ ⟨rows, mm, v6, hrl, hi, hR, rfl, hmm, rfl⟩
      have hl9 : rows.length = mn := by
        rw [hrl]; simp [rngD]
      clear hrl
      repeat infer_instance
      refine i_take (by show mm ≤ _; omega) (by omega) (by omega) fun k3 hk3 => ?_
      repeat infer_instance
      refine ⟨(k3 : Int), rfl, by omega, by omega, ?_⟩
      rw [Int.toNat_natCast]
      refine i_loop (fun i ρ r' => ∃ (ways : List (List D)) (mm2 : Nat) (v8 : Option D), ways.length = i ∧ i ≤ k3 ∧ (∀ l ∈ ways, ChsK rows.length l) ∧ r' = ⟨mm2, [], ns.length⟩ ∧ mm2 ≤ 100000 + 60 * i ∧ ρ = [some dScr, some dSt, some (.int (mn : Int)), some (.bool b), some (.list (rows.map .tuple)), some (.list ((cntsL rows).map fun n : Nat => .int (n : Int))), v6, some (.list (ways.map .tuple)), v8, none, none, none, none, none, none, none]) ⟨[], mm + 1, none, rfl, by omega, (fun l hl => nomatch hl), rfl, by have : (rngD 0 mn).length = mn := (by simp [rngD]); omega, rfl⟩ ?_ ?_
      · rintro i d ρ _ nx hd ⟨ways, mm2, v8, hwl, hi3, hW, rfl, hmm2, rfl⟩ hI
        have hi2 : i < k3 := by
          have h := (List.getElem?_eq_some_iff.mp hd).1
          simpa [rngD] using h
        have fin2 : ∀ (cs : List D) (m' : Nat), ChsK rows.length cs → m' ≤ mm2 + 60 → (ways.map PyData.tuple).length < sizeLine ∧ nx [some dScr, some dSt, some (.int (mn : Int)), some (.bool b), some (.list (rows.map .tuple)), some (.list ((cntsL rows).map fun n : Nat => .int (n : Int))), v6, some (.list (ways.map .tuple ++ [.tuple cs])), some d, none, none, none, none, none, none, none] ⟨m', [], ns.length⟩ := fun cs m' hc hm' => by
          refine ⟨by rw [List.length_map, sizeLine_eq]; omega, ?_⟩
          have e4 : ways.map PyData.tuple ++ [.tuple cs] = (ways ++ [cs]).map .tuple := by rw [List.map_append]; rfl
          rw [e4]
          exact hI _ _ ⟨ways ++ [cs], m', some d, by rw [List.length_append, hwl]; rfl, by omega, fun l hl => (List.mem_append.mp hl).elim (hW l) fun h => by rw [List.mem_singleton.mp h]; exact hc, rfl, by omega, rfl⟩
        repeat infer_instance
        by_cases h15 : mn < 1500
        · rw [if_pos (decide_eq_true (by omega))]
          repeat infer_instance
          refine ⟨mm2, [], ns.length, mn, b, rfl, rfl, by omega, by omega, fun cs m' hc hcl hm' => ?_⟩
          exact fin2 cs m' (by rw [hl9]; exact hc) (by omega)
        · rw [if_neg (fun z => h15 (by have := of_decide_eq_true z; omega))]
          repeat infer_instance
          have e9 : (PyData.int ((mn : Int) - 1)) = .int ((mn - 1 : Nat) : Int) := by congr 1; omega
          exact (fin2 [.int ((mn : Int) - 1)] mm2 ⟨by simp, fun x hx => by rw [List.mem_singleton.mp hx]; exact .inr ⟨mn - 1, e9, by omega⟩⟩ (by omega)).2
      · rintro ρ _ ⟨ways, mm2, v8, hwl, hi3, hW, rfl, hmm2, rfl⟩
        have hw4 : ways.length ≤ 4 := by omega
        have G : GoodR rows ways := ⟨hR, by omega, hW⟩
        clear hmm hmm2 hwl hi3
        repeat infer_instance
        refine i_go (fun d => match d with | .tuple l => .int (sumN (cntsL rows) l : Int) | _ => .none) (fun d hd R q => ?_) ?_
        · obtain ⟨l, hl, rfl⟩ := List.mem_map.mp hd
          repeat infer_instance
          exact ⟨cntsL rows, l, rfl, by rw [cntsL_len]; exact hW l hl, q⟩
        repeat infer_instance
        refine ⟨ways.map fun l => (sumN (cntsL rows) l : Int), by rw [List.map_map, List.map_map]; rfl, ?_⟩
        have es : (ways.map fun l => (sumN (cntsL rows) l : Int)).sum = (legsN rows ways : Int) := by
          unfold legsN
          rw [← legs_eq]
          congr 2
          funext l
          exact (sumI_eq _ l).symm
        rw [es]
        repeat infer_instance
        refine i_go (fun d => .tuple [.str "m.a", .tuple [.str ""], d]) (fun d hd R q => ?_) ?_
        · obtain ⟨l, hl, rfl⟩ := List.mem_map.mp hd
          repeat infer_instance
        have er : (rows.map PyData.tuple).map (fun d => PyData.tuple [.str "m.a", .tuple [.str ""], d]) = rows.map rowD := by rw [List.map_map]; rfl
        rw [er]
        repeat infer_instance
        refine ⟨_, _, _, _, _, rfl, rows, ways, rfl, G, rfl, _, rfl, rfl, ?_⟩
        repeat infer_instance
        rw [if_neg (by decide +kernel)]
        repeat infer_instance
        rw [if_neg (by decide +kernel)]
        repeat infer_instance
        refine ⟨rows, ways, rfl, G, ?_⟩
        repeat infer_instance
        refine ⟨rows, ways, 101, rfl, G, by omega, by omega, rfl, ?_⟩
        repeat infer_instance
        have ec : cutL ((ansAll rows ways).take 101) Option.none (some 100) = (ansAll rows ways).take 100 := by
          have h : cutL ((ansAll rows ways).take 101) Option.none (some ((100 : Nat) : Int)) = ((ansAll rows ways).take 101).take 100 := by
            unfold cutL
            rw [HT.sIx_none, HT.sIx_nat, List.drop_zero, Nat.sub_zero, ← List.take_eq_take_min]
          rw [List.take_take] at h
          exact h
        rw [ec]
        obtain ⟨l1, l2⟩ := ans_lay G 100
        refine i_eqD l2 l2 ?_
        rw [PySem.SeqAt.eqv_refl _ l1]
        refine ⟨true, rfl, ?_⟩
        rw [if_pos rfl]
        repeat infer_instance
        refine i_min43 ?_
        have em : (if (101 : Int) < (legsN rows ways : Int) then (101 : Int) else (legsN rows ways : Int)) = ((((ansAll rows ways).take 101).length : Nat) : Int) := by
          rw [List.length_take, ← legsN_len G]
          by_cases h : (101 : Int) < (legsN rows ways : Int)
          · rw [if_pos h]; omega
          · rw [if_neg h]; omega
        rw [em]
        repeat infer_instance
        refine ⟨rows, ways, 101, rfl, G, by omega, by omega, rfl, ?_⟩
        repeat infer_instance
        obtain ⟨l3, l4⟩ := ans_lay G 101
        refine i_eqD l4 l4 ?_
        rw [PySem.SeqAt.eqv_refl _ l3]
        exact rfl
end
end Sn
namespace Sn
open PySem PySem.Spec PyProof.Rows L2
set_option maxHeartbeats 0 in
theorem factsH {P : Program} {w : World} {K : Fr} {h : Heap} {mg : Str → Option Value} {fa : Addr} (hP : PrOk P) (X : K.In h) (G : h.Ns mainGlobals mg) (hfa : mg ("law" : Str) = some (.ref fa)) (c : obsM fsH dsH tsH K = valM dsH tsH w) :
    ∃ fd : FuncData, (∀ (s : Shared) (v : Value), BindsTo s fd ⟨[v], []⟩ [("_law_script", v)]) ∧ ∀ base : Heap, K.In base → base.Ns mainGlobals mg → FnG P w K mg base CX0 8 fa fd ["_law_script"] (spLaw K) := by
  have df_is_string : (dfB K (He.ga K "is_string") "is_string" []) = true := fact c 0 rfl
  obtain ⟨fd_is_string, F_is_string⟩ := fun_of (K := K) (a := (He.ga K "is_string")) (name := "is_string") (qual := "is_string") (st := s_is_string) (dfnM c 0 (d := d_is_string) rfl) df_is_string
  have g0_0 : (He.Fa.ok K (.glo "is_string")) = true := fact c 1 rfl
  have df_is_tuple_of_strings : (dfB K (He.ga K "is_tuple_of_strings") "is_tuple_of_strings" []) = true := fact c 2 rfl
  obtain ⟨fd_is_tuple_of_strings, F_is_tuple_of_strings⟩ := fun_of (K := K) (a := (He.ga K "is_tuple_of_strings")) (name := "is_tuple_of_strings") (qual := "is_tuple_of_strings") (st := s_is_tuple_of_strings) (dfnM c 1 (d := d_is_tuple_of_strings) rfl) df_is_tuple_of_strings
  have g0_1 : (He.Fa.ok K (.glo "is_tuple_of_strings")) = true := fact c 3 rfl
  have df_is_choice : (dfB K (He.ga K "is_choice") "is_choice" []) = true := fact c 4 rfl
  obtain ⟨fd_is_choice, F_is_choice⟩ := fun_of (K := K) (a := (He.ga K "is_choice")) (name := "is_choice") (qual := "is_choice") (st := s_is_choice) (dfnM c 2 (d := d_is_choice) rfl) df_is_choice
  have g0_2 : (He.Fa.ok K (.glo "is_choice")) = true := fact c 5 rfl
  have df_are_choices : (dfB K (He.ga K "are_choices") "are_choices" []) = true := fact c 6 rfl
  obtain ⟨fd_are_choices, F_are_choices⟩ := fun_of (K := K) (a := (He.ga K "are_choices")) (name := "are_choices") (qual := "are_choices") (st := s_are_choices) (dfnM c 3 (d := d_are_choices) rfl) df_are_choices
  have g0_3 : (He.Fa.ok K (.glo "are_choices")) = true := fact c 7 rfl
  have df_is_row : (dfB K (He.ga K "is_row") "is_row" []) = true := fact c 8 rfl
  obtain ⟨fd_is_row, F_is_row⟩ := fun_of (K := K) (a := (He.ga K "is_row")) (name := "is_row") (qual := "is_row") (st := s_is_row) (dfnM c 4 (d := d_is_row) rfl) df_is_row
  have g0_4 : (He.Fa.ok K (.glo "is_row")) = true := fact c 9 rfl
  have df_are_parts : (dfB K (He.ga K "are_parts") "are_parts" []) = true := fact c 10 rfl
  obtain ⟨fd_are_parts, F_are_parts⟩ := fun_of (K := K) (a := (He.ga K "are_parts")) (name := "are_parts") (qual := "are_parts") (st := s_are_parts) (dfnM c 5 (d := d_are_parts) rfl) df_are_parts
  have g0_5 : (He.Fa.ok K (.glo "are_parts")) = true := fact c 11 rfl
  have df_law_begun : (dfB K (He.ga K "_law_begun") "_law_begun" []) = true := fact c 12 rfl
  obtain ⟨fd_law_begun, F_law_begun⟩ := fun_of (K := K) (a := (He.ga K "_law_begun")) (name := "_law_begun") (qual := "_law_begun") (st := s_law_begun) (dfnM c 6 (d := d_law_begun) rfl) df_law_begun
  have g0_6 : (He.Fa.ok K (.glo "_law_begun")) = true := fact c 13 rfl
  have df_law_mixed : (dfB K (He.ga K "_law_mixed") "_law_mixed" []) = true := fact c 14 rfl
  obtain ⟨fd_law_mixed, F_law_mixed⟩ := fun_of (K := K) (a := (He.ga K "_law_mixed")) (name := "_law_mixed") (qual := "_law_mixed") (st := s_law_mixed) (dfnM c 7 (d := d_law_mixed) rfl) df_law_mixed
  have g0_7 : (He.Fa.ok K (.glo "_law_mixed")) = true := fact c 15 rfl
  have df_law_take : (dfB K (He.ga K "_law_take") "_law_take" []) = true := fact c 16 rfl
  obtain ⟨fd_law_take, F_law_take⟩ := fun_of (K := K) (a := (He.ga K "_law_take")) (name := "_law_take") (qual := "_law_take") (st := s_law_take) (dfnM c 8 (d := d_law_take) rfl) df_law_take
  have g0_8 : (He.Fa.ok K (.glo "_law_take")) = true := fact c 17 rfl
  have df_law_pick : (dfB K (He.ga K "_law_pick") "_law_pick" []) = true := fact c 18 rfl
  obtain ⟨fd_law_pick, F_law_pick⟩ := fun_of (K := K) (a := (He.ga K "_law_pick")) (name := "_law_pick") (qual := "_law_pick") (st := s_law_pick) (dfnM c 9 (d := d_law_pick) rfl) df_law_pick
  have g0_9 : (He.Fa.ok K (.glo "_law_pick")) = true := fact c 19 rfl
  have df_law_row_of : (dfB K (He.ga K "_law_row_of") "_law_row_of" []) = true := fact c 20 rfl
  obtain ⟨fd_law_row_of, F_law_row_of⟩ := fun_of (K := K) (a := (He.ga K "_law_row_of")) (name := "_law_row_of") (qual := "_law_row_of") (st := s_law_row_of) (dfnM c 10 (d := d_law_row_of) rfl) df_law_row_of
  have g0_10 : (He.Fa.ok K (.glo "_law_row_of")) = true := fact c 21 rfl
  have df_law_many_of : (dfB K (He.ga K "_law_many_of") "_law_many_of" []) = true := fact c 22 rfl
  obtain ⟨fd_law_many_of, F_law_many_of⟩ := fun_of (K := K) (a := (He.ga K "_law_many_of")) (name := "_law_many_of") (qual := "_law_many_of") (st := s_law_many_of) (dfnM c 11 (d := d_law_many_of) rfl) df_law_many_of
  have g0_11 : (He.Fa.ok K (.glo "_law_many_of")) = true := fact c 23 rfl
  have df_law_first_answers : (dfB K (He.ga K "_law_first_answers") "_law_first_answers" []) = true := fact c 24 rfl
  obtain ⟨fd_law_first_answers, F_law_first_answers⟩ := fun_of (K := K) (a := (He.ga K "_law_first_answers")) (name := "_law_first_answers") (qual := "_law_first_answers") (st := s_law_first_answers) (dfnM c 12 (d := d_law_first_answers) rfl) df_law_first_answers
  have g0_12 : (He.Fa.ok K (.glo "_law_first_answers")) = true := fact c 25 rfl
  have df_law_told : (dfB K (He.ga K "_law_told") "_law_told" []) = true := fact c 26 rfl
  obtain ⟨fd_law_told, F_law_told⟩ := fun_of (K := K) (a := (He.ga K "_law_told")) (name := "_law_told") (qual := "_law_told") (st := s_law_told) (dfnM c 13 (d := d_law_told) rfl) df_law_told
  have g0_13 : (He.Fa.ok K (.glo "_law_told")) = true := fact c 27 rfl
  have df_law : (dfB K (He.ga K "law") "law" []) = true := fact c 28 rfl
  obtain ⟨fd_law, F_law⟩ := fun_of (K := K) (a := (He.ga K "law")) (name := "law") (qual := "law") (st := s_law) (dfnM c 14 (d := d_law) rfl) df_law
  have g0_14 : (He.Fa.ok K (.glo "law")) = true := fact c 29 rfl
  have z0_isinstance : (He.Fa.ok K (.free "isinstance")) = true := fact c 30 rfl
  have z0_str : (He.Fa.ok K (.free "str")) = true := fact c 31 rfl
  have z0_all : (He.Fa.ok K (.free "all")) = true := fact c 32 rfl
  have z0_len : (He.Fa.ok K (.free "len")) = true := fact c 33 rfl
  have z0_tuple : (He.Fa.ok K (.free "tuple")) = true := fact c 34 rfl
  have z0_int : (He.Fa.ok K (.free "int")) = true := fact c 35 rfl
  have z0_bool : (He.Fa.ok K (.free "bool")) = true := fact c 36 rfl
  have z0_enumerate : (He.Fa.ok K (.free "enumerate")) = true := fact c 37 rfl
  have z0_sum : (He.Fa.ok K (.free "sum")) = true := fact c 38 rfl
  have z0_list : (He.Fa.ok K (.free "list")) = true := fact c 39 rfl
  have z0_range : (He.Fa.ok K (.free "range")) = true := fact c 40 rfl
  have z0_min : (He.Fa.ok K (.free "min")) = true := fact c 41 rfl
  have cb_Route : (clsB K (He.ga K "Route")) = true := fact c 42 rfl
  have cm_Route := clsB_ok cb_Route
  have g0_15 : (He.Fa.ok K (.glo "Route")) = true := fact c 43 rfl
  have at_Route_start : (noAtB K (He.ga K "Route") "start") = true := fact c 44 rfl
  have at_Route_arguments : (noAtB K (He.ga K "Route") "arguments") = true := fact c 45 rfl
  have at_Route_rows : (noAtB K (He.ga K "Route") "rows") = true := fact c 46 rfl
  have at_Route_legs : (noAtB K (He.ga K "Route") "legs") = true := fact c 47 rfl
  have at_Route_counts : (noAtB K (He.ga K "Route") "counts") = true := fact c 48 rfl
  have at_Route_count : (noAtB K (He.ga K "Route") "count") = true := fact c 49 rfl
  have df_Route_init : (dfB K (He.ma K (He.ga K "Route") "__init__") "Route.__init__" []) = true := fact c 50 rfl
  obtain ⟨fd_Route_init, F_Route_init⟩ := fun_of (K := K) (a := (He.ma K (He.ga K "Route") "__init__")) (name := "__init__") (qual := "Route.__init__") (st := s_Route_init) (dfnM c 15 (d := d_Route_init) rfl) df_Route_init
  have mt_Route_init : (metB K (He.ga K "Route") (He.ma K (He.ga K "Route") "__init__") "__init__") = true := fact c 51 rfl
  have df_Route_counted : (dfB K (He.ma K (He.ga K "Route") "counted") "Route.counted" []) = true := fact c 52 rfl
  obtain ⟨fd_Route_counted, F_Route_counted⟩ := fun_of (K := K) (a := (He.ma K (He.ga K "Route") "counted")) (name := "counted") (qual := "Route.counted") (st := s_Route_counted) (dfnM c 16 (d := d_Route_counted) rfl) df_Route_counted
  have mt_Route_counted : (metB K (He.ga K "Route") (He.ma K (He.ga K "Route") "counted") "counted") = true := fact c 53 rfl
  have df_Route_answers : (dfB K (He.ma K (He.ga K "Route") "answers") "Route.answers" []) = true := fact c 54 rfl
  obtain ⟨fd_Route_answers, F_Route_answers⟩ := fun_of (K := K) (a := (He.ma K (He.ga K "Route") "answers")) (name := "answers") (qual := "Route.answers") (st := s_Route_answers) (dfnM c 17 (d := d_Route_answers) rfl) df_Route_answers
  have mt_Route_answers : (metB K (He.ga K "Route") (He.ma K (He.ga K "Route") "answers") "answers") = true := fact c 55 rfl
  have eb_SpareError : (errB K (He.ga K "SpareError") (He.ga K "SpareError")) = true := fact c 56 rfl
  have em_SpareError := errB_ok eb_SpareError
  have g0_16 : (He.Fa.ok K (.glo "SpareError")) = true := fact c 57 rfl
  have eb_BadRoute : (errB K (He.ga K "BadRoute") (He.ga K "SpareError")) = true := fact c 58 rfl
  have em_BadRoute := errB_ok eb_BadRoute
  have g0_17 : (He.Fa.ok K (.glo "BadRoute")) = true := fact c 59 rfl
  have xi_BadRoute : (PySem.W.excIn K (He.ga K "BadRoute") He.veBase "ValueError.__new__") = true := fact c 60 rfl
  have e3 : fa = He.ga K "law" := by
    have z := hfa.symm.trans (He.glo_ok X G (x := "law") g0_14)
    injection z with z
    injection z
  subst e3
  have T : Nonempty { T : Txt K mg // T.f_law = He.ga K "law" ∧ T.fd_law = fd_law } := ⟨⟨{
    f_is_string := (He.ga K "is_string"), fd_is_string := fd_is_string, F_is_string := F_is_string,
    b_is_string := F_is_string.binds (ps := ["value", "most"]) fun _ _ _ _ _ _ us hl => match us, hl with | [_, _], _ => rfl,
    g_is_string := He.glo_ok X G (x := "is_string") g0_0,
    f_is_tuple_of_strings := (He.ga K "is_tuple_of_strings"), fd_is_tuple_of_strings := fd_is_tuple_of_strings, F_is_tuple_of_strings := F_is_tuple_of_strings,
    b_is_tuple_of_strings := F_is_tuple_of_strings.binds (ps := ["value"]) fun _ _ _ _ _ _ us hl => match us, hl with | [_], _ => rfl,
    g_is_tuple_of_strings := He.glo_ok X G (x := "is_tuple_of_strings") g0_1,
    f_is_choice := (He.ga K "is_choice"), fd_is_choice := fd_is_choice, F_is_choice := F_is_choice,
    b_is_choice := F_is_choice.binds (ps := ["value", "most"]) fun _ _ _ _ _ _ us hl => match us, hl with | [_, _], _ => rfl,
    g_is_choice := He.glo_ok X G (x := "is_choice") g0_2,
    f_are_choices := (He.ga K "are_choices"), fd_are_choices := fd_are_choices, F_are_choices := F_are_choices,
    b_are_choices := F_are_choices.binds (ps := ["value", "most"]) fun _ _ _ _ _ _ us hl => match us, hl with | [_, _], _ => rfl,
    g_are_choices := He.glo_ok X G (x := "are_choices") g0_3,
    f_is_row := (He.ga K "is_row"), fd_is_row := fd_is_row, F_is_row := F_is_row,
    b_is_row := F_is_row.binds (ps := ["value", "k"]) fun _ _ _ _ _ _ us hl => match us, hl with | [_, _], _ => rfl,
    g_is_row := He.glo_ok X G (x := "is_row") g0_4,
    f_are_parts := (He.ga K "are_parts"), fd_are_parts := fd_are_parts, F_are_parts := F_are_parts,
    b_are_parts := F_are_parts.binds (ps := ["start", "arguments", "rows", "legs"]) fun _ _ _ _ _ _ us hl => match us, hl with | [_, _, _, _], _ => rfl,
    g_are_parts := He.glo_ok X G (x := "are_parts") g0_5,
    f_law_begun := (He.ga K "_law_begun"), fd_law_begun := fd_law_begun, F_law_begun := F_law_begun,
    b_law_begun := F_law_begun.binds (ps := ["_law_script"]) fun _ _ _ _ _ _ us hl => match us, hl with | [_], _ => rfl,
    g_law_begun := He.glo_ok X G (x := "_law_begun") g0_6,
    f_law_mixed := (He.ga K "_law_mixed"), fd_law_mixed := fd_law_mixed, F_law_mixed := F_law_mixed,
    b_law_mixed := F_law_mixed.binds (ps := ["_law_state"]) fun _ _ _ _ _ _ us hl => match us, hl with | [_], _ => rfl,
    g_law_mixed := He.glo_ok X G (x := "_law_mixed") g0_7,
    f_law_take := (He.ga K "_law_take"), fd_law_take := fd_law_take, F_law_take := F_law_take,
    b_law_take := F_law_take.binds (ps := ["_law_state", "_law_size"]) fun _ _ _ _ _ _ us hl => match us, hl with | [_, _], _ => rfl,
    g_law_take := He.glo_ok X G (x := "_law_take") g0_8,
    f_law_pick := (He.ga K "_law_pick"), fd_law_pick := fd_law_pick, F_law_pick := F_law_pick,
    b_law_pick := F_law_pick.binds (ps := ["_law_state", "_law_some"]) fun _ _ _ _ _ _ us hl => match us, hl with | [_, _], _ => rfl,
    g_law_pick := He.glo_ok X G (x := "_law_pick") g0_9,
    f_law_row_of := (He.ga K "_law_row_of"), fd_law_row_of := fd_law_row_of, F_law_row_of := F_law_row_of,
    b_law_row_of := F_law_row_of.binds (ps := ["_law_state", "_law_k", "_law_near"]) fun _ _ _ _ _ _ us hl => match us, hl with | [_, _, _], _ => rfl,
    g_law_row_of := He.glo_ok X G (x := "_law_row_of") g0_10,
    f_law_many_of := (He.ga K "_law_many_of"), fd_law_many_of := fd_law_many_of, F_law_many_of := F_law_many_of,
    b_law_many_of := F_law_many_of.binds (ps := ["_law_counts", "_law_choices"]) fun _ _ _ _ _ _ us hl => match us, hl with | [_, _], _ => rfl,
    g_law_many_of := He.glo_ok X G (x := "_law_many_of") g0_11,
    f_law_first_answers := (He.ga K "_law_first_answers"), fd_law_first_answers := fd_law_first_answers, F_law_first_answers := F_law_first_answers,
    b_law_first_answers := F_law_first_answers.binds (ps := ["_law_lines", "_law_ways", "_law_most"]) fun _ _ _ _ _ _ us hl => match us, hl with | [_, _, _], _ => rfl,
    g_law_first_answers := He.glo_ok X G (x := "_law_first_answers") g0_12,
    f_law_told := (He.ga K "_law_told"), fd_law_told := fd_law_told, F_law_told := F_law_told,
    b_law_told := F_law_told.binds (ps := ["_law_way", "_law_most"]) fun _ _ _ _ _ _ us hl => match us, hl with | [_, _], _ => rfl,
    g_law_told := He.glo_ok X G (x := "_law_told") g0_13,
    f_law := (He.ga K "law"), fd_law := fd_law, F_law := F_law,
    b_law := F_law.binds (ps := ["_law_script"]) fun _ _ _ _ _ _ us hl => match us, hl with | [_], _ => rfl,
    g_law := He.glo_ok X G (x := "law") g0_14,
    z_isinstance := He.free_ok X G (x := "isinstance") z0_isinstance,
    z_str := He.free_ok X G (x := "str") z0_str,
    z_all := He.free_ok X G (x := "all") z0_all,
    z_len := He.free_ok X G (x := "len") z0_len,
    z_tuple := He.free_ok X G (x := "tuple") z0_tuple,
    z_int := He.free_ok X G (x := "int") z0_int,
    z_bool := He.free_ok X G (x := "bool") z0_bool,
    z_enumerate := He.free_ok X G (x := "enumerate") z0_enumerate,
    z_sum := He.free_ok X G (x := "sum") z0_sum,
    z_list := He.free_ok X G (x := "list") z0_list,
    z_range := He.free_ok X G (x := "range") z0_range,
    z_min := He.free_ok X G (x := "min") z0_min,
    C_Route := (He.ga K "Route"), gC_Route := He.glo_ok X G (x := "Route") g0_15, cl_Route := ⟨cm_Route.pg, cm_Route.hd, cm_Route.po, cm_Route.sa⟩, sf_Route := cm_Route.sf, ih_Route := cm_Route.ih, in_Route := cm_Route.gi, it_Route := cm_Route.it, im_Route := cm_Route.im, ne_Route := cm_Route.ne, ty_Route := cm_Route.ty,
    at_Route_start := He.eqO_ok at_Route_start,
    at_Route_arguments := He.eqO_ok at_Route_arguments,
    at_Route_rows := He.eqO_ok at_Route_rows,
    at_Route_legs := He.eqO_ok at_Route_legs,
    at_Route_counts := He.eqO_ok at_Route_counts,
    at_Route_count := He.eqO_ok at_Route_count,
    f_Route_init := (He.ma K (He.ga K "Route") "__init__"), fd_Route_init := fd_Route_init, F_Route_init := F_Route_init,
    b_Route_init := F_Route_init.binds (ps := ["self", "start", "arguments", "rows", "legs"]) fun _ _ _ _ _ _ us hl => match us, hl with | [_, _, _, _, _], _ => rfl,
    m_Route_init := ⟨(metB_ok mt_Route_init).1, (metB_ok mt_Route_init).2, F_Route_init.kp⟩,
    mk_Route := ⟨cm_Route.mke, (metB_ok mt_Route_init).1, (metB_ok mt_Route_init).2, cm_Route.kc⟩,
    f_Route_counted := (He.ma K (He.ga K "Route") "counted"), fd_Route_counted := fd_Route_counted, F_Route_counted := F_Route_counted,
    b_Route_counted := F_Route_counted.binds (ps := ["self", "choices"]) fun _ _ _ _ _ _ us hl => match us, hl with | [_, _], _ => rfl,
    m_Route_counted := ⟨(metB_ok mt_Route_counted).1, (metB_ok mt_Route_counted).2, F_Route_counted.kp⟩,
    f_Route_answers := (He.ma K (He.ga K "Route") "answers"), fd_Route_answers := fd_Route_answers, F_Route_answers := F_Route_answers,
    b_Route_answers := F_Route_answers.binds (ps := ["self"]) fun _ _ _ _ _ _ us hl => match us, hl with | [_], _ => rfl,
    m_Route_answers := ⟨(metB_ok mt_Route_answers).1, (metB_ok mt_Route_answers).2, F_Route_answers.kp⟩,
    C_SpareError := (He.ga K "SpareError"), gC_SpareError := He.glo_ok X G (x := "SpareError") g0_16, x_SpareError := em_SpareError.x, xf_SpareError := em_SpareError.xf, kC_SpareError := em_SpareError.kc, ty_SpareError := em_SpareError.ty, m_SpareError := PySem.W.exm_ref em_SpareError.ex em_SpareError.hd em_SpareError.ty em_SpareError.sb,
    C_BadRoute := (He.ga K "BadRoute"), gC_BadRoute := He.glo_ok X G (x := "BadRoute") g0_17, x_BadRoute := em_BadRoute.x, xf_BadRoute := em_BadRoute.xf, kC_BadRoute := em_BadRoute.kc, ty_BadRoute := em_BadRoute.ty, m_BadRoute := PySem.W.exm_ref em_SpareError.ex em_SpareError.hd em_SpareError.ty em_BadRoute.sb,
    xi_BadRoute := xi_BadRoute }, rfl, rfl⟩⟩
  obtain ⟨T, e1, e2⟩ := T
  refine ⟨fd_law, fun_b1 F_law (fun _ _ _ _ _ _ _ => rfl), fun base _ _ => ?_⟩
  rw [← e1, ← e2]
  exact ok_law T hP
end Sn
open PySem PySem.W PySem.Calls PyProof.Rows
set_option maxRecDepth 100000 in
set_option maxHeartbeats 0 in
theorem PySem.Challenge.cw_sparenames_k43_answers_of_routes_holds : PySem.Challenge.rw_sparenames_k43_answers_of_routes.Holds := by
  w_on; o_law
  refine HandSHeadRun.head_any (r := OpenLaw.row PySem.Challenge.rw_sparenames_k43_answers_of_routes) (q := Sn.qvH) (H := Sn.hkH) (ob := Sn.obH) (M := 20000) (loose := Sn.namesH) (d := HandSHeadRun.topDef (OpenLaw.row PySem.Challenge.rw_sparenames_k43_answers_of_routes).prog 21) (kwd := []) Sn.ob_eqH
    (by kernel_rfl) (fun s => by kernel_rfl) Sn.runH (by kernel_rfl) (by kernel_rfl) (by kernel_rfl) (by rfl) (by first | assumption | decide +kernel) (by decide +kernel) ⟨rfl, rfl, rfl, rfl, rfl, by decide +kernel⟩ ?hw ?hc
  case hw => w_witness2
  case hc =>
    refine Sn.walkGE (l := PySem.Challenge.rw_sparenames_k43_answers_of_routes) (n := 63) (k := 8) (x := "_law_script") rfl (by decide) (by kernel_rfl) ⟨rfl, by decide, by decide⟩ ?F
    intro w mg fa h Y G hmg0
    obtain ⟨K, KX, c⟩ := Y
    have hmg : mg ("law" : PySem.Str) = some (.ref fa) := by
      have e : (HandSHeadRun.topDef (OpenLaw.row PySem.Challenge.rw_sparenames_k43_answers_of_routes).prog 21).name = ("law" : PySem.Str) := by kernel_rfl
      rw [← e]
      exact hmg0
    obtain ⟨fd, hb, hF⟩ := Sn.factsH (P := (PySem.Challenge.rw_sparenames_k43_answers_of_routes).prog) (w := w) ⟨rfl, by decide +kernel⟩ KX G hmg c
    exact ⟨K, fd, Sn.spLaw K, KX, hb, fun H a ns hl _ hS => ⟨a, ns, rfl, hS, hl, fun _ => rfl⟩, hF⟩
