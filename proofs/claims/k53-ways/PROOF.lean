import PyProof.Rows.All
import Wide.All
import OpenK.AllK
import Wide.FinOn
import HandS.ForMost
import HandS.Walk
import HandS.Wide
import HandS.Style
import HandS.EndBits
import HandS.IsInst
import HandS.Strs
import HandS.Deep
import HandS.Conv
import HandS.Defaults
import HandS.Lambda
import HandS.OwnEq
import HandS.MakeKwOnly
import HandS.RaiseMore
import PyProof.ReprLen
import PyProof.ReprRoads
import KE.KUnpack
import PyProof.CollectIter
import HandS.More
import PySem.Challenge.RW_newsdoors_k53_ways_and_what_is_below
set_option Elab.async false
set_option linter.all false
set_option maxRecDepth 100000
set_option maxHeartbeats 4000000
/-! Part 0: promises of defs that know that no guard of repr stands open. -/
namespace Nd
open PySem PySem.Spec L2
open PyProof.Rows hiding St

structure FnG (P : Program) (w : World) (K : PySem.W.Frag) (mg : Str → Option Value) (base : Heap) (CX : CXT) (k : Nat) (f : Addr)
    (fd : FuncData) (ps : List Str) (sp : Sp) : Prop where
  len : ∀ vs H Q E, sp vs H Q E → vs.length = ps.length
  run : ∀ (A : Around) (out : List Env) (s : Shared) (H : Hp) (ar : Args) (us : List Value) (vs : List V) (Q : VK) (E : XK),
    Room k A → A.guards = some [] → Env0 P w K mg base A out s H → BindsTo s fd ar (ps.zip us) → Vals vs us → sp vs H Q E →
    codeAny (model P w) A (.call (.ref f) ar) (CR CX out P w H s Q E) s

section
variable {P : Program} {w : World} {K : PySem.W.Frag} {mg : Str → Option Value} {base : Heap} {CX : CXT} {j k : Nat} {f : Addr}
  {fd : FuncData} {ps N : List Str} {sp : Sp}

theorem FnG.up (F : FnG P w K mg base CX j f fd ps sp) (h : j ≤ k) : FnG P w K mg base CX k f fd ps sp :=
  ⟨F.len, fun A out s H ar us vs Q E hr => F.run A out s H ar us vs Q E (hr.mono h)⟩

/-- a def by its body -/
theorem fnG_body {x qual : Str} {st : Stmt} (F : Fun K x qual st f fd) (S : FnScope N ps (defScope st))
    (len : ∀ vs H Q E, sp vs H Q E → vs.length = ps.length)
    (hb : ∀ (cdv : Value) (A : Around) (out : List Env) (s : Shared) (H : Hp) (vs : List V) (Q : VK) (E : XK),
      Room k (A.deeper (envOfC qual (defScope st) s.heap.objs.size f cdv)) →
      (A.deeper (envOfC qual (defScope st) s.heap.objs.size f cdv)).guards = some [] → sp vs H Q E →
      ∃ t, PSs (cxOf CX P w K mg base N qual (defScope st) f cdv A out s H E) (defBody st) t ∧
        t { nx := fun _ H' => Q .non H', rt := Q } (start N vs) H) :
    FnG P w K mg base CX (k + 1) f fd ps sp := by
  obtain ⟨oc, od, kV, doc, pm, an, cdv, ct, osl, rfl, lk, hcd⟩ := F.ex
  refine ⟨len, fun A out s H ar us vs Q E hr hg e0 hbind r hsp => ?_⟩
  have hl := len _ _ _ _ hsp
  have KX : K.In s.heap := e0.mod.kin.keeps fun b o e => (e0.bs b o e).1
  have lim := e0.mod.nolimit.keeps (h' := s.heap) fun b o e => (e0.bs b o e).1
  have hkind : ∀ y ∈ ps.zip us, (defScope st).names.lookup y.1 = some .local ∨
      ((defScope st).names.lookup y.1 = some .cell ∧ ((cellsFrom (s.heap.objs.size + 1) (defScope st).names []).lookup y.1).isSome = true) := by
    rintro ⟨n, v⟩ hy
    rcases S.par n (List.of_mem_zip hy).1 with q | q
    · exact .inl q
    · exact .inr ⟨q, PySem.W.cellsFrom_some _ _ _ (.inl q)⟩
  refine codeAny_call_function hr.depth (KX _ _ lk) rfl S.co S.gen rfl (PySem.W.codeRec_of KX hcd) (hbind _ _ _ _ ?_)
  refine wpAny_newFunctionEnv_cells S.kind hkind fun env he s1 x => ?_
  subst he
  refine ⟨lim.keeps x.toInCall.keep, codeAny_func ?_⟩
  obtain ⟨t, ht, hq⟩ := hb cdv A out s H vs Q E (hr.deeper _) hg hsp
  have I := inv_start (CX := CX) (P := P) (w := w) (N := N) (E := E) S hr.hd e0 hl r x
  refine wpAny_mono (ht.run [] s1 (start N vs) H _ I hq) (fun fl s' hs => ?_) fun e s' hs => hs
  cases fl with
  | ret u =>
    obtain ⟨v, σ', H', J, rv, q⟩ := hs
    exact ⟨v, H', J.os, J.bare, J.base, J.hok, rv, q⟩
  | next =>
    obtain ⟨σ', H', J, q⟩ := hs
    exact ⟨V.non, H', J.os, J.bare, J.base, J.hok, rfl, q⟩
  | brk => exact hs.elim fun _ z => z.elim fun _ z => z.2.elim
  | cont => exact hs.elim fun _ z => z.elim fun _ z => z.2.elim
end

section
variable {X : Cx} {CX : CXT} {k : Nat} {f C : Addr} {fd : FuncData} {ps : List Str} {sp : Sp} {dvs : List V} {ds : List Value} {E : XK}
  {x m : Str} {p pos apos : Pos} {e o : Expr} {es : List Expr} {ta : TE} {t : TA}

theorem runG {pins : List (Addr × Obj)} {σ : St} {H : Hp} {s : Shared} {Q : VK} {us : List Value} {vs : List V}
    (F : FnG X.prog X.w X.K X.mg X.base CX k f fd ps sp) (hr : Room k X.A) (hgd : X.A.guards = some []) (hb : Binds X.K fd ps ds) (hd : Vals dvs ds)
    (hx : Passes CX X E) (I : Inv X pins σ H s) (r : Vals vs us) (h : sp (vs ++ dvs) H Q E) :
    wpAny (model X.prog X.w) X.A (call (.ref f) us) (EP X pins σ Q) X.xe s := by
  have r2 : Vals (vs ++ dvs) (us ++ ds) := r.append hd
  have hl : (us ++ ds).length = ps.length := r2.length ▸ F.len _ _ _ _ h
  refine wpAny_call (codeAny_mono (F.run X.A X.stack s H ⟨us, []⟩ (us ++ ds) (vs ++ dvs) Q E hr hgd I.env0 (hb s us I.kIn hl) r2 h) ?_)
  intro r s' hq
  cases r with
  | error e => exact hx pins σ H s e s' I hq
  | ok fl => cases fl with
    | ret u => exact I.after hq
    | next => exact hq.elim
    | brk => exact hq.elim
    | cont => exact hq.elim

theorem pe_callG (F : FnG X.prog X.w X.K X.mg X.base CX k f fd ps sp) (hr : Room k X.A) (hgd : X.A.guards = some []) (hg : Gl X x)
    (hm : X.mg x = some (.ref f)) (hk : PySem.W.keepIn X.K (.ref f) = true) (hb : Binds X.K fd ps ds) (hd : Vals dvs ds) (hx : Passes CX X E)
    (ha : PA X (e :: es) t) (hdb : (x == ("__debug__" : Str)) = false := by decide)
    (he : starEach (e :: es) X.env = (false, eval e X.env) :: starEach es X.env := by rfl)
    (hpl : (backTo pos (starEach es X.env)).any (·.1) = false := by rfl) :
    PE X (.Call (.Name x p) (e :: es) [] pos) (tCall sp dvs E t) := by
  refine ⟨fun pins s σ H Q I h => wpAny_Call_Name_kw (ld_glob I hg hm ?_ hdb)⟩
  refine PySem.W.callWith_K (h₀ := X.base) I.ok.mod.kin hk (thn (ha.run pos pins s σ H _ I h) ?_) he hpl
  rintro us s1 ⟨vs, H1, I1, r, q⟩
  exact ⟨I1.kIn, runG F hr hgd hb hd hx I1 r q⟩
theorem pe_callG0 (F : FnG X.prog X.w X.K X.mg X.base CX k f fd ps sp) (hr : Room k X.A) (hgd : X.A.guards = some []) (hg : Gl X x)
    (hm : X.mg x = some (.ref f)) (hk : PySem.W.keepIn X.K (.ref f) = true) (hb : Binds X.K fd ps ds) (hd : Vals dvs ds) (hx : Passes CX X E)
    (hdb : (x == ("__debug__" : Str)) = false := by decide) : PE X (.Call (.Name x p) [] [] pos) (tCall sp dvs E tNil) :=
  ⟨fun pins s σ H Q I h => wpAny_Call_Name_kw (ld_glob I hg hm (PySem.W.callWith_K0 I.kIn hk (runG (us := []) F hr hgd hb hd hx I .nil h)) hdb)⟩

variable {n : Nat} {ks : List Str} {kws : List Keyword} {tk : TA} {g : List Value → List Value → List Value} {gV : List V → List V → List V}
theorem runGN {pins : List (Addr × Obj)} {σ : St} {H : Hp} {s : Shared} {Q : VK} {us ws : List Value} {vs zs : List V}
    (F : FnG X.prog X.w X.K X.mg X.base CX k f fd ps sp) (hr : Room k X.A) (hgd : X.A.guards = some []) (hb : KBn X.K fd ps n ks g gV)
    (hx : Passes CX X E) (I : Inv X pins σ H s) (r : Vals vs us) (rz : Vals zs ws) (l1 : vs.length = n) (l2 : zs.length = ks.length)
    (h : sp (gV vs zs) H Q E) : wpAny (model X.prog X.w) X.A (call (.ref f) us (ks.zip ws)) (EP X pins σ Q) X.xe s := by
  refine wpAny_call (codeAny_mono (F.run X.A X.stack s H ⟨us, ks.zip ws⟩ (g us ws) (gV vs zs) Q E hr hgd I.env0
    (hb.to s us ws I.kIn (r.length.symm.trans l1) (rz.length.symm.trans l2)) (hb.rel r rz) h) ?_)
  intro r s' hq
  cases r with
  | error e => exact hx pins σ H s e s' I hq
  | ok fl => cases fl with
    | ret u => exact I.after hq
    | next => exact hq.elim
    | brk => exact hq.elim
    | cont => exact hq.elim
/-- f(k = v, ..): keywords alone -/
theorem pe_callGK (F : FnG X.prog X.w X.K X.mg X.base CX k f fd ps sp) (hr : Room k X.A) (hgd : X.A.guards = some []) (hg : Gl X x)
    (hm : X.mg x = some (.ref f)) (hk : PySem.W.keepIn X.K (.ref f) = true) (hb : KBn X.K fd ps 0 ks g gV) (hx : Passes CX X E)
    (hkw : PK X kws tk) (hall : (backToKw pos (keywordEach kws X.env)).all (·.1.isSome) = true := by rfl)
    (hks : (backToKw pos (keywordEach kws X.env)).filterMap (·.1) = ks := by rfl) (hdb : (x == ("__debug__" : Str)) = false := by decide)
    (hpl : ((backTo pos (starEach [] X.env)).any (·.1) || (backToKw pos (keywordEach kws X.env)).any (·.1.isNone)) = false := by rfl) :
    PE X (.Call (.Name x p) [] kws pos) (tCallN 0 ks.length sp gV E tNil tk) := by
  refine ⟨fun pins s σ H Q I h => wpAny_Call_Name_kw (ld_glob I hg hm ?_ hdb)⟩
  refine PySem.W.callWith_KW0 (h₀ := X.base) I.ok.mod.kin hk hall (thn (hkw.run pos pins s σ H _ I h) ?_) hpl
  rintro ws s2 ⟨zs, H2, I2, rz, l1, l2, q2⟩
  refine ⟨I2.kIn, ?_⟩
  rw [hks]
  exact runGN (us := []) (vs := []) F hr hgd hb hx I2 .nil rz l1 l2 q2
/-- f(e, .., k = v, ..) -/
theorem pe_callGN (F : FnG X.prog X.w X.K X.mg X.base CX k f fd ps sp) (hr : Room k X.A) (hgd : X.A.guards = some []) (hg : Gl X x)
    (hm : X.mg x = some (.ref f)) (hk : PySem.W.keepIn X.K (.ref f) = true) (hb : KBn X.K fd ps n ks g gV) (hx : Passes CX X E)
    (ha : PA X (e :: es) t) (hkw : PK X kws tk) (hall : (backToKw pos (keywordEach kws X.env)).all (·.1.isSome) = true := by rfl)
    (hks : (backToKw pos (keywordEach kws X.env)).filterMap (·.1) = ks := by rfl) (hdb : (x == ("__debug__" : Str)) = false := by decide)
    (he : starEach (e :: es) X.env = (false, eval e X.env) :: starEach es X.env := by rfl)
    (hpl : ((backTo pos (starEach (e :: es) X.env)).any (·.1) || (backToKw pos (keywordEach kws X.env)).any (·.1.isNone)) = false := by rfl) :
    PE X (.Call (.Name x p) (e :: es) kws pos) (tCallN n ks.length sp gV E t tk) := by
  refine ⟨fun pins s σ H Q I h => wpAny_Call_Name_kw (ld_glob I hg hm ?_ hdb)⟩
  refine PySem.W.callWith_KW (h₀ := X.base) I.ok.mod.kin hk hall (thn (ha.run pos pins s σ H _ I h) ?_) hpl he
  rintro us s1 ⟨vs, H1, I1, r, q⟩
  refine thn (hkw.run pos pins s1 σ H1 _ I1 q) ?_
  rintro ws s2 ⟨zs, H2, I2, rz, l1, l2, q2⟩
  refine ⟨I2.kIn, ?_⟩
  rw [hks]
  exact runGN F hr hgd hb hx I2 r rz l1 l2 q2
end

/-! ### the law's own call -/
section
variable {P : Program} {w : World} {K : PySem.W.Frag} {mg mb : Str → Option Value} {k : Nat} {fa a : Addr} {fd : FuncData} {x : Str} {sp : Sp}
  {s : Shared} {vs : List Value} {ns : List Int}
abbrev OkEnd (s : Shared) : Result → Shared → Prop := fun r s' => r = .ok (.ret (.bool true)) ∧ OldK s.heap s'.heap ∧ s'.os = s.os ∧ AllBare s'.gens
theorem lawG_core (KX : K.In s.heap) (hns : s.heap.Ns mainGlobals mg) (hb : s.heap.Ns builtinsNs mb)
    (hbb : ∀ x : Str, x ≠ "__name__" → mb x = bootBuiltins x) (hlim : s.heap.NoLimit) (hg : s.gens = #[])
    (ha : s.heap.get? a = some { cls := .type "list", data := .seq vs.toArray }) (hr : Room k callerA)
    (F : ∀ base : Heap, K.In base → base.Ns mainGlobals mg → FnG P w K mg base CX0 k fa fd [x] sp)
    (hbind : ∀ (s : Shared) (u : Value), BindsTo s fd ⟨[u], []⟩ [(x, u)]) (H : Hp) (hO : Only H)
    (hsp : sp [.ref a] H (fun v _ => v = .bl true) fun _ _ _ => False) (hok : HOk P w H s.heap) (hA : ∀ b, H b ≠ none → b = a)
    (hK : H a ≠ none → K.lookup a = none) :
    codeAny (model P w) callerA (.call (.ref fa) ⟨[.ref a], []⟩) (OkEnd s) s := by
  have isA : ∀ {b : Addr} {u : HO}, H b = some u → b = a := fun {b u} q => hA b (by rw [q]; intro z; cases z)
  have noA : ∀ {b : Addr} {o : Obj} {es : Array DictEntry} {ep : Nat}, s.heap.get? b = some o → o.data = .dict es ep → H b = none := by
    intro b o es ep e d
    cases q : H b with
    | none => rfl
    | some u =>
      have e' := isA q
      subst e'
      rw [ha] at e; cases e
      exact nomatch (show Data.seq vs.toArray _ = Data.dict es ep from d)
  have nsK : ∀ {b : Addr} {m : Str → Option Value}, s.heap.Ns b m → (hidT s.heap H).Ns b m :=
    fun {b m} ⟨o, es, ep, e, d, r⟩ => ⟨o, es, ep, hidT_get e (noA e d), d, r⟩
  have hKb : K.In (hidT s.heap H) := by
    intro b o e
    refine hidT_get (KX b o e) ?_
    cases q : H b with
    | none => rfl
    | some u =>
      have e' := isA q
      subst e'
      rw [hK (by rw [q]; intro z; cases z)] at e; cases e
  have hM : Mod K mg (hidT s.heap H) := ⟨hKb, nsK hns, ⟨mb, nsK hb, hbb⟩, hlim.elim fun mc z => ⟨mc, nsK z.1, z.2⟩⟩
  have e0 : Env0 P w K mg (hidT s.heap H) callerA [] s H :=
    ⟨rfl, hM, fun b o e => of_hidT e, Nat.le_of_eq (hidT_size _ _), trivial, fun b hb => (List.not_mem_nil hb).elim, hok, .of_eq hg⟩
  refine codeAny_mono ((F _ hKb (nsK hns)).run callerA [] s H ⟨[.ref a], []⟩ [.ref a] [.ref a] _ _ hr rfl e0 (hbind s (.ref a)) (.cons rfl .nil) hsp) ?_
  intro r s' h
  cases r with
  | error e => exact h.elim
  | ok fl => cases fl with
    | next => exact h.elim
    | brk => exact h.elim
    | cont => exact h.elim
    | ret u =>
      obtain ⟨v, H', os, bare, un, hok', r', q⟩ := h
      obtain rfl : v = .bl true := q
      obtain rfl : u = Value.bool true := r'
      refine ⟨rfl, OldK.of_keep ?_, os, bare⟩
      intro b o e
      cases q : H b with
      | none => exact un.keep b o e q (fun z => (List.not_mem_nil z).elim) (fun z => (List.not_mem_nil z).elim)
      | some u =>
        rcases hO b with z | ⟨ob, xs, z⟩
        · rw [q] at z; cases z
        · obtain ⟨e1, _⟩ := hok b _ z
          obtain ⟨e2, _⟩ := hok' b _ (un.frzs b ob _ z)
          rw [e] at e1; cases e1
          exact e2
theorem lawG_call (KX : K.In s.heap) (hns : s.heap.Ns mainGlobals mg) (hb : s.heap.Ns builtinsNs mb)
    (hbb : ∀ x : Str, x ≠ "__name__" → mb x = bootBuiltins x) (hlim : s.heap.NoLimit) (hg : s.gens = #[])
    (ha : s.heap.get? a = some { cls := .type "list", data := .seq vs.toArray }) (hi : IntsAre vs ns) (hl : ns.length ≤ sizeLine) (hr : Room k callerA)
    (F : ∀ base : Heap, K.In base → base.Ns mainGlobals mg → FnG P w K mg base CX0 k fa fd [x] sp)
    (hbind : ∀ (s : Shared) (u : Value), BindsTo s fd ⟨[u], []⟩ [(x, u)])
    (hsp : ∀ H : Hp, Only H → SqL K H a (ns.map V.int) → sp [.ref a] H (fun v _ => v = .bl true) fun _ _ _ => False) :
    codeAny (model P w) callerA (.call (.ref fa) ⟨[.ref a], []⟩) (OkEnd s) s := by
  have rv := vals_ints hi
  cases hk : K.lookup a with
  | some o =>
    have e := KX a o hk
    rw [ha] at e
    cases e
    have S : SqL K (fun _ => none) a (ns.map V.int) := .inr ⟨_, vs.toArray, _, hk, rfl, rfl, rfl, by rw [List.size_toArray, hi.length]; exact hl, by simpa using rv⟩
    exact lawG_core KX hns hb hbb hlim hg ha hr F hbind (fun _ => none) (fun _ => .inl rfl) (hsp _ (fun _ => .inl rfl) S) (fun b u z => nomatch z) (fun b z => absurd rfl z) fun z => absurd rfl z
  | none =>
    let u : HO := .frz { cls := .type "list", data := .seq vs.toArray } (.lst (ns.map V.int))
    have e1 : (upd (fun _ => none) a u) a = some u := upd_same
    have e2 : ∀ b, b ≠ a → (upd (fun _ => none) a u) b = none := fun b h => upd_ne h
    have O : Only (upd (fun _ => none) a u) := fun b => by
      by_cases h : b = a
      · subst h; exact .inr ⟨_, _, e1⟩
      · exact .inl (e2 b h)
    refine lawG_core KX hns hb hbb hlim hg ha hr F hbind (upd (fun _ => none) a u) O (hsp _ O (.inl (.inr ⟨_, e1⟩))) ?_ ?_ fun _ => hk
    · intro b o z
      by_cases h : b = a
      · subst h
        rw [e1] at z; cases z
        exact ⟨ha, by rw [List.length_map]; exact hl, vs, _, rv, ha⟩
      · rw [e2 b h] at z; cases z
    · intro b z
      by_cases h : b = a
      · exact h
      · exact absurd (e2 b h) z
end

theorem walkG {l : PySem.W.OpenLaw} {n k : Nat} {q : Program} {loose : List Str} {XP : (Str → Option Value) → Heap → Prop} {YP : World → Heap → Prop} {d : DefRec}
    {K : Params → PySem.W.Frag} {sp : PySem.W.Frag → Sp} {x : Str} (hn : l.most = some n) (hn2 : n ≤ sizeLine) (hdf : d.params.defaults = []) (hr : Room k callerA)
    (hY : ∀ (w : World) (h : Heap), YP w h → (K w.params).In h)
    (F : ∀ (w : World) (mg : Str → Option Value) (fa : Addr) (h : Heap), (K w.params).In h → h.Ns mainGlobals mg → mg d.name = some (.ref fa) →
      ∃ fd : FuncData, (∀ (s : Shared) (u : Value), BindsTo s fd ⟨[u], []⟩ [(x, u)]) ∧
        ∀ base : Heap, (K w.params).In base → base.Ns mainGlobals mg → FnG l.prog w (K w.params) mg base CX0 k fa fd [x] (sp (K w.params)))
    (hsp : ∀ (K : PySem.W.Frag) (H : Hp) (a : Addr) (ns : List Int), ns.length ≤ n → (∀ z ∈ ns, Builtin.Int.intBits z ≤ 1048576) → Only H →
      SqL K H a (ns.map V.int) → sp K [.ref a] H (fun v _ => v = .bl true) fun _ _ _ => False) :
    PySem.W.WalkO q loose XP YP l.row.toRowW d [] (fun f vs => PySem.call f vs) := by
  refine Att.attach_callB hn hdf ?_
  intro w s0 s1 mg mb fa o pm cd doc a vs ns G Y ho hd hcd hmg hobj hints hlen hbits hg
  have KX := hY w _ Y
  obtain ⟨fd, hb, hF⟩ := F w mg fa _ KX G.T.g hmg
  exact lawG_call KX G.T.g G.T.b G.T.builtins G.T.nolimit hg hobj hints (Nat.le_trans hlen hn2) hr hF hb fun H hO hS => hsp _ H a ns hlen hbits hO hS
end Nd
/-! Part 1: data, what stands for them in a heap; slots; what holds between two steps. -/
namespace Nd
open PySem PySem.Spec L2
open PyProof.Rows hiding St

inductive D where
  | non | bl (b : Bool) | int (i : Int) | str (s : Str) | lst (xs : List D) | tup (xs : List D) | dct (kvs : List (Key × D)) | fls (xs : List D)
  | ins (C : Addr) (fs : List (Str × D)) | fn (nm : Str) (ps : Arguments) (body : Expr) (sc : Scope)

/-- what may be read stays so; lists stand as they are -/
def IsData : HO → Prop
  | .lst _ => True
  | .tup _ => True
  | .dK _ => True
  | _ => False
structure Up (F G : Hp) : Prop where
  rd : ∀ a u, IsData u → Rd F a u → Rd G a u
  ls : ∀ a xs, F a = some (.lst xs) → G a = some (.lst xs)
  is : ∀ a C dx fs, F a = some (.ins C dx fs) → G a = some (.ins C dx fs)
  xt : ∀ a f, F a = some (.ext f) → G a = some (.ext f)
theorem Up.refl (F : Hp) : Up F F := ⟨fun _ _ _ h => h, fun _ _ h => h, fun _ _ _ _ h => h, fun _ _ h => h⟩
theorem Up.trans {F G H : Hp} (a : Up F G) (b : Up G H) : Up F H := ⟨fun x u z h => b.rd x u z (a.rd x u z h), fun x u h => b.ls x u (a.ls x u h), fun x C dx fs h => b.is x C dx fs (a.is x C dx fs h), fun x f h => b.xt x f (a.xt x f h)⟩
theorem Up.of {F G : Hp} (h : Same F G) : Up F G := by
  refine ⟨?_, fun a xs e => h a _ e, fun a C dx fs e => h a _ e, fun a f e => h a _ e⟩
  rintro a u - (e | ⟨o, e⟩)
  · exact .inl (h a _ e)
  · exact .inr ⟨o, h a _ e⟩
theorem sql_up {K : PySem.W.Frag} {F G : Hp} (h : Up F G) {a : Addr} {xs : List V} (q : SqL K F a xs) : SqL K G a xs := q.imp (h.rd a _ trivial) id
theorem sqt_up {K : PySem.W.Frag} {F G : Hp} (h : Up F G) {a : Addr} {xs : List V} (q : SqT K F a xs) : SqT K G a xs := q.imp (h.rd a _ trivial) id

/-- a lambda that captures nothing: its object -/
def FnO (f : Addr) (nm : Str) (ps : Arguments) (body : Expr) (sc : Scope) : HO := .ext fun h => ∃ (pm ctv : Value) (c' : Addr) (oc : Obj) (vs : Array Value) (t : Tok),
  h.get? f = some (PySem.W.kla_obj "<lambda>" nm ps body sc [] pm c' ctv) ∧ h.get? c' = some oc ∧ oc.data = .fields vs ∧ vs[1]? = some (.str nm t)
mutual
inductive Is (K : PySem.W.Frag) (F : Hp) : V → D → Prop
  | non : Is K F .non .non
  | bl (b : Bool) : Is K F (.bl b) (.bl b)
  | int (i : Int) : Is K F (.int i) (.int i)
  | str (s : Str) : Is K F (.str s) (.str s)
  | lst {a : Addr} {xs : List V} {ds : List D} : F a = some (.lst xs) → IsL K F xs ds → Is K F (.ref a) (.lst ds)
  | fls {a : Addr} {xs : List V} {ds : List D} : SqL K F a xs → IsL K F xs ds → Is K F (.ref a) (.fls ds)
  | tup {a : Addr} {xs : List V} {ds : List D} : SqT K F a xs → IsL K F xs ds → Is K F (.ref a) (.tup ds)
  | dct {a : Addr} {kvs : List (Key × V)} {ds : List (Key × D)} : Rd F a (.dK kvs) → IsK K F kvs ds → Is K F (.ref a) (.dct ds)
  | ins {a C dx : Addr} {fs : List (Str × V)} {ds : List (Str × D)} : F a = some (.ins C dx fs) → IsF K F fs ds → Is K F (.ref a) (.ins C ds)
  | fn {f : Addr} {nm : Str} {ps : Arguments} {body : Expr} {sc : Scope} : F f = some (FnO f nm ps body sc) → Is K F (.ref f) (.fn nm ps body sc)
inductive IsL (K : PySem.W.Frag) (F : Hp) : List V → List D → Prop
  | nil : IsL K F [] []
  | cons {v : V} {d : D} {vs : List V} {ds : List D} : Is K F v d → IsL K F vs ds → IsL K F (v :: vs) (d :: ds)
inductive IsK (K : PySem.W.Frag) (F : Hp) : List (Key × V) → List (Key × D) → Prop
  | nil : IsK K F [] []
  | cons {k : Key} {v : V} {d : D} {vs : List (Key × V)} {ds : List (Key × D)} : Is K F v d → IsK K F vs ds → IsK K F ((k, v) :: vs) ((k, d) :: ds)
inductive IsF (K : PySem.W.Frag) (F : Hp) : List (Str × V) → List (Str × D) → Prop
  | nil : IsF K F [] []
  | cons {k : Str} {v : V} {d : D} {vs : List (Str × V)} {ds : List (Str × D)} : Is K F v d → IsF K F vs ds → IsF K F ((k, v) :: vs) ((k, d) :: ds)
end

section
variable {K : PySem.W.Frag} {F G : Hp}
mutual
theorem Is.up (h : Up F G) : ∀ {v : V} {d : D}, Is K F v d → Is K G v d
  | _, _, .non => .non
  | _, _, .bl b => .bl b
  | _, _, .int i => .int i
  | _, _, .str s => .str s
  | _, _, .lst a b => .lst (h.ls _ _ a) (IsL.up h b)
  | _, _, .fls a b => .fls (sql_up h a) (IsL.up h b)
  | _, _, .tup a b => .tup (sqt_up h a) (IsL.up h b)
  | _, _, .dct a b => .dct (h.rd _ _ trivial a) (IsK.up h b)
  | _, _, .ins a b => .ins (h.is _ _ _ _ a) (IsF.up h b)
  | _, _, .fn a => .fn (h.xt _ _ a)
theorem IsL.up (h : Up F G) : ∀ {v : List V} {d : List D}, IsL K F v d → IsL K G v d
  | _, _, .nil => .nil
  | _, _, .cons a b => .cons (Is.up h a) (IsL.up h b)
theorem IsK.up (h : Up F G) : ∀ {v : List (Key × V)} {d : List (Key × D)}, IsK K F v d → IsK K G v d
  | _, _, .nil => .nil
  | _, _, .cons a b => .cons (Is.up h a) (IsK.up h b)
theorem IsF.up (h : Up F G) : ∀ {v : List (Str × V)} {d : List (Str × D)}, IsF K F v d → IsF K G v d
  | _, _, .nil => .nil
  | _, _, .cons a b => .cons (Is.up h a) (IsF.up h b)
end
theorem IsL.length : ∀ {vs : List V} {ds : List D}, IsL K F vs ds → vs.length = ds.length
  | _, _, .nil => rfl
  | _, _, .cons _ b => congrArg Nat.succ b.length
theorem IsK.length : ∀ {vs : List (Key × V)} {ds : List (Key × D)}, IsK K F vs ds → vs.length = ds.length
  | _, _, .nil => rfl
  | _, _, .cons _ b => congrArg Nat.succ b.length
theorem IsL.get : ∀ {vs : List V} {ds : List D} {i : Nat} {d : D}, IsL K F vs ds → ds[i]? = some d → ∃ v, vs[i]? = some v ∧ Is K F v d
  | _, _, 0, _, .cons a _, e => by
    cases e
    exact ⟨_, rfl, a⟩
  | _, _, i + 1, _, .cons _ b, e => IsL.get (i := i) b e
theorem IsL.got : ∀ {vs : List V} {ds : List D} {i : Nat} {v : V}, IsL K F vs ds → vs[i]? = some v → ∃ d, ds[i]? = some d ∧ Is K F v d
  | _, _, 0, _, .cons a _, e => by
    cases e
    exact ⟨_, rfl, a⟩
  | _, _, i + 1, _, .cons _ b, e => IsL.got (i := i) b e
theorem IsL.append : ∀ {vs us : List V} {ds es : List D}, IsL K F vs ds → IsL K F us es → IsL K F (vs ++ us) (ds ++ es)
  | _, _, _, _, .nil, h => h
  | _, _, _, _, .cons a b, h => .cons a (b.append h)
theorem IsL.take : ∀ {vs : List V} {ds : List D} (n : Nat), IsL K F vs ds → IsL K F (vs.take n) (ds.take n)
  | _, _, 0, _ => .nil
  | _, _, _ + 1, .nil => .nil
  | _, _, n + 1, .cons a b => .cons a (b.take n)
theorem IsL.drop : ∀ {vs : List V} {ds : List D} (n : Nat), IsL K F vs ds → IsL K F (vs.drop n) (ds.drop n)
  | _, _, 0, h => h
  | _, _, _ + 1, .nil => .nil
  | _, _, n + 1, .cons _ b => b.drop n
theorem IsL.reverse : ∀ {vs : List V} {ds : List D}, IsL K F vs ds → IsL K F vs.reverse ds.reverse
  | _, _, .nil => .nil
  | _, _, .cons a b => by
    rw [List.reverse_cons, List.reverse_cons]
    exact b.reverse.append (.cons a .nil)
theorem IsL.set : ∀ {vs : List V} {ds : List D} (i : Nat) {v : V} {d : D}, IsL K F vs ds → Is K F v d → IsL K F (vs.set i v) (ds.set i d)
  | _, _, _, _, _, .nil, _ => .nil
  | _, _, 0, _, _, .cons _ b, h => .cons h b
  | _, _, i + 1, _, _, .cons a b, h => .cons a (b.set i h)
theorem IsL.strs : ∀ {vs : List V} {ss : List Str}, IsL K F vs (ss.map D.str) → vs = ss.map V.str
  | _, [], .nil => rfl
  | _, s :: ss, .cons a b => by
    cases a
    rw [IsL.strs b]
    rfl
theorem IsL.ints : ∀ {vs : List V} {ss : List Int}, IsL K F vs (ss.map D.int) → vs = ss.map V.int
  | _, [], .nil => rfl
  | _, s :: ss, .cons a b => by
    cases a
    rw [IsL.ints b]
    rfl
theorem IsL.bools : ∀ {vs : List V} {ss : List Bool}, IsL K F vs (ss.map D.bl) → vs = ss.map V.bl
  | _, [], .nil => rfl
  | _, s :: ss, .cons a b => by
    cases a
    rw [IsL.bools b]
    rfl
theorem isL_strs : ∀ (ss : List Str), IsL K F (ss.map V.str) (ss.map D.str)
  | [] => .nil
  | s :: ss => .cons (.str s) (isL_strs ss)
theorem isL_ints : ∀ (ss : List Int), IsL K F (ss.map V.int) (ss.map D.int)
  | [] => .nil
  | s :: ss => .cons (.int s) (isL_ints ss)
end

/-- a tree of things that one name alone holds: they may be changed; im: data as they stand -/
inductive O where
  | im (d : D) | lst (xs : List O) | dct (kvs : List (Key × O)) | ins (C : Addr) (fs : List (Str × O))

mutual
inductive Ow (K : PySem.W.Frag) (F H : Hp) : V → O → List Addr → Prop
  | im {v : V} {d : D} : Is K F v d → Ow K F H v (.im d) []
  | lst {a : Addr} {vs : List V} {os : List O} {as : List Addr} : H a = some (.lst vs) → OwL K F H vs os as → Ow K F H (.ref a) (.lst os) (a :: as)
  | dct {a : Addr} {vs : List (Key × V)} {os : List (Key × O)} {as : List Addr} : H a = some (.dK vs) → OwK K F H vs os as → Ow K F H (.ref a) (.dct os) (a :: as)
  | ins {a C dx : Addr} {vs : List (Str × V)} {os : List (Str × O)} {as : List Addr} : H a = some (.ins C dx vs) → OwF K F H vs os as → Ow K F H (.ref a) (.ins C os) (a :: as)
inductive OwL (K : PySem.W.Frag) (F H : Hp) : List V → List O → List Addr → Prop
  | nil : OwL K F H [] [] []
  | cons {v : V} {o : O} {vs : List V} {os : List O} {as bs : List Addr} : Ow K F H v o as → OwL K F H vs os bs → OwL K F H (v :: vs) (o :: os) (as ++ bs)
inductive OwK (K : PySem.W.Frag) (F H : Hp) : List (Key × V) → List (Key × O) → List Addr → Prop
  | nil : OwK K F H [] [] []
  | cons {k : Key} {v : V} {o : O} {vs : List (Key × V)} {os : List (Key × O)} {as bs : List Addr} : Ow K F H v o as → OwK K F H vs os bs → OwK K F H ((k, v) :: vs) ((k, o) :: os) (as ++ bs)
inductive OwF (K : PySem.W.Frag) (F H : Hp) : List (Str × V) → List (Str × O) → List Addr → Prop
  | nil : OwF K F H [] [] []
  | cons {k : Str} {v : V} {o : O} {vs : List (Str × V)} {os : List (Str × O)} {as bs : List Addr} : Ow K F H v o as → OwF K F H vs os bs → OwF K F H ((k, v) :: vs) ((k, o) :: os) (as ++ bs)
end
section
variable {K : PySem.W.Frag} {F G H H' : Hp}
mutual
theorem Ow.keep (h : Up F G) : ∀ {v : V} {o : O} {as : List Addr}, Ow K F H v o as → (∀ a u, a ∈ as → H a = some u → H' a = some u) → Ow K G H' v o as
  | _, _, _, .im a, _ => .im (a.up h)
  | _, _, _, .lst a b, k => .lst (k _ _ List.mem_cons_self a) (OwL.keep h b fun x u m => k x u (List.mem_cons_of_mem _ m))
  | _, _, _, .dct a b, k => .dct (k _ _ List.mem_cons_self a) (OwK.keep h b fun x u m => k x u (List.mem_cons_of_mem _ m))
  | _, _, _, .ins a b, k => .ins (k _ _ List.mem_cons_self a) (OwF.keep h b fun x u m => k x u (List.mem_cons_of_mem _ m))
theorem OwL.keep (h : Up F G) : ∀ {v : List V} {o : List O} {as : List Addr}, OwL K F H v o as → (∀ a u, a ∈ as → H a = some u → H' a = some u) → OwL K G H' v o as
  | _, _, _, .nil, _ => .nil
  | _, _, _, .cons a b, k => .cons (Ow.keep h a fun x u m => k x u (List.mem_append_left _ m)) (OwL.keep h b fun x u m => k x u (List.mem_append_right _ m))
theorem OwK.keep (h : Up F G) : ∀ {v : List (Key × V)} {o : List (Key × O)} {as : List Addr}, OwK K F H v o as → (∀ a u, a ∈ as → H a = some u → H' a = some u) → OwK K G H' v o as
  | _, _, _, .nil, _ => .nil
  | _, _, _, .cons a b, k => .cons (Ow.keep h a fun x u m => k x u (List.mem_append_left _ m)) (OwK.keep h b fun x u m => k x u (List.mem_append_right _ m))
theorem OwF.keep (h : Up F G) : ∀ {v : List (Str × V)} {o : List (Str × O)} {as : List Addr}, OwF K F H v o as → (∀ a u, a ∈ as → H a = some u → H' a = some u) → OwF K G H' v o as
  | _, _, _, .nil, _ => .nil
  | _, _, _, .cons a b, k => .cons (Ow.keep h a fun x u m => k x u (List.mem_append_left _ m)) (OwF.keep h b fun x u m => k x u (List.mem_append_right _ m))
end
/-- all of a list's items are plain data -/
theorem owL_im : ∀ {vs : List V} {ds : List D}, IsL K F vs ds → OwL K F H vs (ds.map O.im) []
  | _, _, .nil => .nil
  | _, _, .cons a b => OwL.cons (as := []) (bs := []) (.im a) (owL_im b)
theorem owL_of : ∀ {ds : List D} {vs : List V} {as : List Addr}, OwL K F H vs (ds.map O.im) as → IsL K F vs ds ∧ as = []
  | [], _, _, .nil => ⟨.nil, rfl⟩
  | _ :: ds, _, _, .cons (.im a) b => by
    obtain ⟨h, rfl⟩ := owL_of (ds := ds) b
    exact ⟨.cons a h, rfl⟩
theorem owK_im : ∀ {vs : List (Key × V)} {ds : List (Key × D)}, IsK K F vs ds → OwK K F H vs (ds.map fun q => (q.1, O.im q.2)) []
  | _, _, .nil => .nil
  | _, _, .cons a b => OwK.cons (as := []) (bs := []) (.im a) (owK_im b)
theorem owK_of : ∀ {ds : List (Key × D)} {vs : List (Key × V)} {as : List Addr}, OwK K F H vs (ds.map fun q => (q.1, O.im q.2)) as → IsK K F vs ds ∧ as = []
  | [], _, _, .nil => ⟨.nil, rfl⟩
  | _ :: ds, _, _, .cons (.im a) b => by
    obtain ⟨h, rfl⟩ := owK_of (ds := ds) b
    exact ⟨.cons a h, rfl⟩
theorem owF_im : ∀ {vs : List (Str × V)} {ds : List (Str × D)}, IsF K F vs ds → OwF K F H vs (ds.map fun q => (q.1, O.im q.2)) []
  | _, _, .nil => .nil
  | _, _, .cons a b => OwF.cons (as := []) (bs := []) (.im a) (owF_im b)
theorem owF_of : ∀ {ds : List (Str × D)} {vs : List (Str × V)} {as : List Addr}, OwF K F H vs (ds.map fun q => (q.1, O.im q.2)) as → IsF K F vs ds ∧ as = []
  | [], _, _, .nil => ⟨.nil, rfl⟩
  | _ :: ds, _, _, .cons (.im a) b => by
    obtain ⟨h, rfl⟩ := owF_of (ds := ds) b
    exact ⟨.cons a h, rfl⟩
end
/-- a list, a dict of plain data that may be changed -/
abbrev oL (ds : List D) : O := .lst (ds.map O.im)
abbrev oK (ds : List (Key × D)) : O := .dct (ds.map fun q => (q.1, O.im q.2))
abbrev oI (C : Addr) (fs : List (Str × D)) : O := .ins C (fs.map fun q => (q.1, O.im q.2))

inductive Sl where
  | un | im (d : D) | ow (v : V) (o : O) | fd (kvs : List (Key × D))
inductive SlR (K : PySem.W.Frag) (F H : Hp) : Sl → Option V → List Addr → Prop
  | un {x : Option V} : SlR K F H .un x []
  | im {v : V} {d : D} : Is K F v d → SlR K F H (.im d) (some v) []
  | ow {v : V} {o : O} {as : List Addr} : Ow K F H v o as → SlR K F H (.ow v o) (some v) as
  | fd {a : Addr} {o : Obj} {vs : List (Key × V)} {kvs : List (Key × D)} : F a = some (.frz o (.dK vs)) → IsK K F vs kvs → SlR K F H (.fd kvs) (some (.ref a)) []
theorem SlR.keep {K : PySem.W.Frag} {F G H H' : Hp} (h : Same F G) {s : Sl} {x : Option V} {as : List Addr} (q : SlR K F H s x as) (k : ∀ a u, a ∈ as → H a = some u → H' a = some u) : SlR K G H' s x as := by
  cases q with
  | un => exact .un
  | im a => exact .im (a.up (Up.of h))
  | ow a => exact .ow (a.keep (Up.of h) k)
  | fd a b => exact .fd (h _ _ a) (b.up (Up.of h))
/-- the same where a lock is laid or lifted -/
theorem SlR.keepU {K : PySem.W.Frag} {F G H H' : Hp} (h : Up F G) {s : Sl} {x : Option V} {as : List Addr} (hs : ∀ kvs, s ≠ .fd kvs) (q : SlR K F H s x as) (k : ∀ a u, a ∈ as → H a = some u → H' a = some u) : SlR K G H' s x as := by
  cases q with
  | un => exact .un
  | im a => exact .im (a.up h)
  | ow a => exact .ow (a.keep h k)
  | fd a b => exact absurd rfl (hs _)

/-- the tables of code objects that the law's lambdas write -/
class Tb where
  T : List (Addr × Str)
variable [Tb]
/-- no table, nothing told of the heap -/
structure Pl (u : HO) : Prop where
  t : ∀ ps, u ≠ .tbl ps
  x : ∀ f, u ≠ .ext f
theorem pl_lst {xs : List V} : Pl (.lst xs) := ⟨nofun, nofun⟩
theorem pl_dK {xs : List (Key × V)} : Pl (.dK xs) := ⟨nofun, nofun⟩
theorem pl_ins {C dx : Addr} {xs : List (Str × V)} : Pl (.ins C dx xs) := ⟨nofun, nofun⟩
theorem pl_frz {o : Obj} {u : HO} : Pl (.frz o u) := ⟨nofun, nofun⟩
/-- all stays, but what the tables hold -/
def Kp (H H' : Hp) : Prop := ∀ a o, H a = some o → H' a = some o ∨ ((∃ ps, o = .tbl ps) ∧ ∃ ps, H' a = some (.tbl ps))
theorem Kp.of {H H' : Hp} (h : Same H H') : Kp H H' := fun a o e => .inl (h a o e)
theorem Kp.refl (H : Hp) : Kp H H := .of (.refl H)
theorem Kp.trans {H H1 H2 : Hp} (a : Kp H H1) (b : Kp H1 H2) : Kp H H2 := fun x o e => by
  rcases a x o e with z | ⟨z, ps, y⟩
  · exact b x o z
  · rcases b x _ y with w | ⟨_, w⟩
    · exact .inr ⟨z, ps, w⟩
    · exact .inr ⟨z, w⟩
theorem Kp.at' {H H' : Hp} {a : Addr} {o : HO} (h : Kp H H') (e : H a = some o) (n : Pl o) : H' a = some o := by
  rcases h a o e with z | ⟨⟨ps, z⟩, _⟩
  · exact z
  · exact absurd z (n.t ps)
theorem Kp.free {H H' : Hp} {a : Addr} (h : Kp H H') (e : H' a = none) : H a = none := by
  cases z : H a with
  | none => rfl
  | some o =>
    rcases h a o z with w | ⟨_, ps, w⟩
    · rw [e] at w; cases w
    · rw [e] at w; cases w
theorem Kp.ne {H H' : Hp} {a : Addr} (h : Kp H H') (e : H a ≠ none) : H' a ≠ none := fun z => e (h.free z)
abbrev Tbs (H : Hp) : Prop := LamX.Tabs Tb.T H
theorem tbs_ext {H H' : Hp} (t : Tbs H) (e : Same H H') : Tbs H' := t.ext e
theorem tbs_upd {H : Hp} {p : Addr} {u o : HO} (t : Tbs H) (e : H p = some u) (n : Pl u) : Tbs (upd H p o) := fun q hq => by
  obtain ⟨ps, a1, a2, a3⟩ := t q hq
  have ne : q.1 ≠ p := fun z => by rw [z, e] at a1; exact n.t ps (Option.some.inj a1)
  refine ⟨ps, by rw [upd_ne ne]; exact a1, a2, fun pos cv hc => ?_⟩
  obtain ⟨c, e1, e2⟩ := a3 pos cv hc
  have nc : c ≠ p := fun z => by rw [z, e] at e2; exact n.x _ (Option.some.inj e2)
  exact ⟨c, e1, by rw [upd_ne nc]; exact e2⟩
theorem tbs_less {H H1 : Hp} {c : Addr} {u : HO} (t : Tbs H) (e : H c = some u) (n : Pl u) (h : ∀ b, b ≠ c → H1 b = H b) : Tbs H1 := fun q hq => by
  obtain ⟨ps, a1, a2, a3⟩ := t q hq
  have ne : q.1 ≠ c := fun z => by rw [z, e] at a1; exact n.t ps (Option.some.inj a1)
  refine ⟨ps, by rw [h _ ne]; exact a1, a2, fun pos cv hc => ?_⟩
  obtain ⟨c', e1, e2⟩ := a3 pos cv hc
  have nc : c' ≠ c := fun z => by rw [z, e] at e2; exact n.x _ (Option.some.inj e2)
  exact ⟨c', e1, by rw [h _ nc]; exact e2⟩
/-- a def's entry: what is frozen there, the heap, what it may change -/
structure Bs where
  F0 : Hp
  H0 : Hp
  ft : Addr → Prop

/-- fp: the things that each slot alone holds -/
structure Sls (K : PySem.W.Frag) (B : Bs) (Γ : List Sl) (σ : St) (F H : Hp) (fp : Nat → List Addr) : Prop where
  r : ∀ i s, Γ[i]? = some s → ∃ x, σ[i]? = some x ∧ SlR K F H s x (fp i)
  nd : ∀ i, (fp i).Nodup
  ap : ∀ i j a, a ∈ fp i → a ∈ fp j → i = j
  ok : ∀ i a, a ∈ fp i → F a = none ∧ H a ≠ none ∧ (B.ft a ∨ B.H0 a = none)
  pl : ∀ i a u, a ∈ fp i → H a = some u → Pl u
structure Hold (K : PySem.W.Frag) (B : Bs) (Γ : List Sl) (σ : St) (F H : Hp) : Prop where
  len : σ.length = Γ.length
  sl : ∃ fp : Nat → List Addr, Sls K B Γ σ F H fp
  ex : Same F H
  ff : Same B.F0 F
  nw : ∀ a o, F a = some o → B.F0 a = some o ∨ B.H0 a = none ∨ B.ft a
  fr : ∀ a o, B.H0 a = some o → ¬ B.ft a → H a = some o ∨ ((∃ ps, o = .tbl ps) ∧ ∃ ps, H a = some (.tbl ps))
  tb : Tbs H
theorem Hold.frE {K : PySem.W.Frag} {B : Bs} {Γ : List Sl} {σ : St} {F H : Hp} (h : Hold K B Γ σ F H) {a : Addr} {o : HO} (e : B.H0 a = some o) (m : ¬ B.ft a) (n : Pl o) : H a = some o := by
  rcases h.fr a o e m with z | ⟨⟨ps, z⟩, _⟩
  · exact z
  · exact absurd z (n.t ps)

def pf (fp : Nat → List Addr) (i : Nat) (as : List Addr) : Nat → List Addr := fun j => if j = i then as else fp j
theorem pf_same {fp : Nat → List Addr} {i : Nat} {as : List Addr} : pf fp i as i = as := if_pos rfl
theorem pf_ne {fp : Nat → List Addr} {i j : Nat} {as : List Addr} (h : j ≠ i) : pf fp i as j = fp j := if_neg h
theorem Sls.put {K : PySem.W.Frag} {B : Bs} {Γ : List Sl} {σ : St} {F F' H H' : Hp} {fp : Nat → List Addr} {i : Nat} {s : Sl} {x : Option V} {as : List Addr} (S : Sls K B Γ σ F H fp) (hl : σ.length = Γ.length)
    (hs : SlR K F' H' s x as) (nd : as.Nodup) (ap : ∀ a, a ∈ as → a ∈ fp i ∨ ∀ j, a ∉ fp j) (ok : ∀ a, a ∈ as → F' a = none ∧ H' a ≠ none ∧ (B.ft a ∨ B.H0 a = none))
    (up : Same F F') (kh : ∀ j a u, j ≠ i → a ∈ fp j → H a = some u → H' a = some u) (kf : ∀ j a, j ≠ i → a ∈ fp j → F' a = none) (np : ∀ a u, a ∈ as → H' a = some u → Pl u) : Sls K B (Γ.set i s) (σ.set i x) F' H' (pf fp i as) := by
  refine ⟨fun j t e => ?_, fun j => ?_, fun j k a m n => ?_, fun j a m => ?_, fun j a u m hu => ?_⟩
  · by_cases z : j = i
    · subst z
      have hj : j < Γ.length := by
        have := (List.getElem?_eq_some_iff.mp e).1
        rwa [List.length_set] at this
      rw [List.getElem?_set_self hj] at e
      cases e
      exact ⟨x, List.getElem?_set_self (by rw [hl]; exact hj), by rw [pf_same]; exact hs⟩
    · rw [List.getElem?_set_ne (Ne.symm z)] at e
      obtain ⟨y, e1, e2⟩ := S.r j t e
      exact ⟨y, by rw [List.getElem?_set_ne (Ne.symm z)]; exact e1, by rw [pf_ne z]; exact e2.keep up fun a u m => kh j a u z m⟩
  · by_cases z : j = i
    · subst z; rw [pf_same]; exact nd
    · rw [pf_ne z]; exact S.nd j
  · by_cases z : j = i
    · by_cases y : k = i
      · rw [z, y]
      · subst z
        rw [pf_same] at m
        rw [pf_ne y] at n
        rcases ap a m with w | w
        · exact S.ap _ _ a w n
        · exact absurd n (w k)
    · rw [pf_ne z] at m
      by_cases y : k = i
      · subst y
        rw [pf_same] at n
        rcases ap a n with w | w
        · exact S.ap _ _ a m w
        · exact absurd m (w j)
      · rw [pf_ne y] at n
        exact S.ap _ _ a m n
  · by_cases z : j = i
    · subst z; rw [pf_same] at m; exact ok a m
    · rw [pf_ne z] at m
      obtain ⟨_, e2, e3⟩ := S.ok j a m
      refine ⟨kf j a z m, ?_, e3⟩
      cases w : H a with
      | none => exact absurd w e2
      | some u => rw [kh j a u z m w]; intro q; cases q
  · by_cases z : j = i
    · subst z; rw [pf_same] at m; exact np a u m hu
    · rw [pf_ne z] at m
      cases w : H a with
      | none => exact absurd w (S.ok j a m).2.1
      | some u' =>
        rw [kh j a u' z m w] at hu
        cases hu
        exact S.pl j a _ m w

/-- a step that only makes new things -/
structure Stp (F H F' H' : Hp) : Prop where
  f : Same F F'
  e : Same F' H'
  h : Kp H H'
  n : ∀ a o, F' a = some o → F a = some o ∨ H a = none
  t : Tbs H → Tbs H'
section
variable {K : PySem.W.Frag} {B : Bs} {Γ Γ' : List Sl} {σ : St} {F F' H H' : Hp} {i : Nat}
theorem Stp.refl (e : Same F H) : Stp F H F H := ⟨.refl F, e, .refl H, fun _ _ h => .inl h, id⟩
theorem same_new {p : Addr} {o : HO} (h : H p = none) : Same H (upd H p o) := fun a u q => by rw [upd_ne (ne_of_none q h)]; exact q
theorem Stp.new {p : Addr} {o : HO} (e : Same F H) (h : H p = none) : Stp F H (upd F p o) (upd H p o) := by
  refine ⟨same_new (e.free h), fun a u q => ?_, .of (same_new h), fun a u q => ?_, fun t => tbs_ext t (same_new h)⟩
  · by_cases z : a = p
    · subst z; rw [upd_same] at q ⊢; exact q
    · rw [upd_ne z] at q ⊢; exact e a u q
  · by_cases z : a = p
    · subst z; exact .inr h
    · rw [upd_ne z] at q; exact .inl q
theorem Stp.trans {F2 H2 : Hp} (a : Stp F H F' H') (b : Stp F' H' F2 H2) : Stp F H F2 H2 := by
  refine ⟨a.f.trans b.f, b.e, a.h.trans b.h, fun x o q => ?_, fun t => b.t (a.t t)⟩
  rcases b.n x o q with z | z
  · exact a.n x o z
  · exact .inr (a.h.free z)
theorem some_of_ne {a : Addr} (h : H a ≠ none) : ∃ u, H a = some u := by
  cases z : H a with
  | none => exact absurd z h
  | some u => exact ⟨u, rfl⟩
/-- what is new for H was not there at the entry, or may be changed -/
theorem Hold.fresh {a : Addr} (h : Hold K B Γ σ F H) (z : H a = none) : B.H0 a = none ∨ B.ft a := by
  by_cases m : B.ft a
  · exact .inr m
  · cases w : B.H0 a with
    | none => exact .inl rfl
    | some u =>
      rcases h.fr a u w m with y | ⟨_, _, y⟩
      · rw [z] at y; cases y
      · rw [z] at y; cases y
theorem Hold.stp (h : Hold K B Γ σ F H) (s : Stp F H F' H') : Hold K B Γ σ F' H' := by
  obtain ⟨fp, S⟩ := h.sl
  refine ⟨h.len, ⟨fp, fun i t e => ?_, S.nd, S.ap, fun i a m => ?_, fun i a u m hu => ?_⟩, s.e, h.ff.trans s.f, fun a o q => ?_, fun a o q m => ?_, s.t h.tb⟩
  · obtain ⟨x, e1, e2⟩ := S.r i t e
    exact ⟨x, e1, e2.keep s.f fun a u m z => s.h.at' z (S.pl i a u m z)⟩
  · obtain ⟨e1, e2, e3⟩ := S.ok i a m
    obtain ⟨u, hu⟩ := some_of_ne e2
    refine ⟨?_, s.h.ne e2, e3⟩
    cases z : F' a with
    | none => rfl
    | some u =>
      rcases s.n a u z with w | w
      · rw [e1] at w; cases w
      · exact absurd w e2
  · obtain ⟨u', hu'⟩ := some_of_ne (S.ok i a m).2.1
    have pu := S.pl i a u' m hu'
    rw [s.h.at' hu' pu] at hu
    cases hu
    exact pu
  · rcases s.n a o q with z | z
    · exact h.nw a o z
    · exact .inr (h.fresh z)
  · rcases h.fr a o q m with z | ⟨z, ps, y⟩
    · exact s.h a o z
    · rcases s.h a _ y with w | ⟨_, w⟩
      · exact .inr ⟨z, ps, w⟩
      · exact .inr ⟨z, w⟩
theorem Hold.lt {s : Sl} (h : Hold K B Γ σ F H) (e : Γ[i]? = some s) : i < σ.length := by
  rw [h.len]
  exact (List.getElem?_eq_some_iff.mp e).1
/-- a slot that holds data -/
theorem Hold.get {d : D} (h : Hold K B Γ σ F H) (e : Γ[i]? = some (.im d)) : ∃ v, σ[i]? = some (some v) ∧ Is K F v d := by
  obtain ⟨fp, S⟩ := h.sl
  obtain ⟨x, e1, e2⟩ := S.r i _ e
  generalize fp i = as at e2
  cases e2 with | im q => exact ⟨_, e1, q⟩
/-- a slot is stored -/
theorem Hold.set {v : V} {d : D} (h : Hold K B Γ σ F H) (q : Is K F v d) : Hold K B (Γ.set i (.im d)) (σ.set i (some v)) F H := by
  obtain ⟨fp, S⟩ := h.sl
  exact ⟨by rw [List.length_set, List.length_set]; exact h.len, ⟨pf fp i [], S.put h.len (.im q) List.nodup_nil (fun _ m => nomatch m) (fun _ m => nomatch m) (.refl F) (fun _ _ _ _ _ z => z) (fun j a _ m => (S.ok j a m).1) fun _ _ m => nomatch m⟩, h.ex, h.ff, h.nw, h.fr, h.tb⟩
/-- less is known of a slot -/
theorem Hold.forget (h : Hold K B Γ σ F H) : Hold K B (Γ.set i .un) σ F H := by
  obtain ⟨fp, S⟩ := h.sl
  by_cases hi : i < σ.length
  · have e : σ = σ.set i (σ[i]) := (List.set_getElem_self hi).symm
    refine ⟨by rw [List.length_set]; exact h.len, ⟨pf fp i [], ?_⟩, h.ex, h.ff, h.nw, h.fr, h.tb⟩
    rw [e]
    exact S.put h.len .un List.nodup_nil (fun _ m => nomatch m) (fun _ m => nomatch m) (.refl F) (fun _ _ _ _ _ z => z) (fun j a _ m => (S.ok j a m).1) fun _ _ m => nomatch m
  · rw [List.set_eq_of_length_le (by rw [← h.len]; omega)]
    exact h
/-- a new list that this slot alone holds -/
theorem Hold.newL {p : Addr} {vs : List V} {ds : List D} (h : Hold K B Γ σ F H) (hp : H p = none) (q : IsL K F vs ds) : Hold K B (Γ.set i (.ow (.ref p) (oL ds))) (σ.set i (some (.ref p))) F (upd H p (.lst vs)) := by
  obtain ⟨fp, S⟩ := h.sl
  have np : ∀ j, p ∉ fp j := fun j m => (S.ok j p m).2.1 hp
  refine ⟨by rw [List.length_set, List.length_set]; exact h.len, ⟨pf fp i [p], S.put h.len (.ow (.lst upd_same (owL_im q))) (by simp) (fun a m => ?_) (fun a m => ?_) (.refl F) (fun j a u _ m z => same_new hp a u z) (fun j a _ m => (S.ok j a m).1) (fun a u m z => ?_)⟩,
    h.ex.trans (same_new hp), h.ff, h.nw, fun a o z m => (h.fr a o z m).imp (same_new hp a o) fun ⟨y, ps, w⟩ => ⟨y, ps, same_new hp a _ w⟩, tbs_ext h.tb (same_new hp)⟩
  · cases List.mem_singleton.mp m
    exact .inr np
  · cases List.mem_singleton.mp m
    exact ⟨h.ex.free hp, by rw [upd_same]; exact nofun, (h.fresh hp).symm⟩
  · cases List.mem_singleton.mp m
    rw [upd_same] at z
    cases z
    exact pl_lst
/-- the list that slot i alone holds -/
theorem Hold.getL {v : V} {ds : List D} (h : Hold K B Γ σ F H) (e : Γ[i]? = some (.ow v (oL ds))) : ∃ p vs, v = .ref p ∧ σ[i]? = some (some (.ref p)) ∧ H p = some (.lst vs) ∧ IsL K F vs ds ∧ F p = none ∧ (B.ft p ∨ B.H0 p = none) := by
  obtain ⟨fp, S⟩ := h.sl
  obtain ⟨x, e1, e2⟩ := S.r i _ e
  have ok := S.ok i
  generalize fp i = as at e2 ok
  cases e2 with
  | ow q => cases q with
    | lst a b =>
      obtain ⟨n1, _, n3⟩ := ok _ List.mem_cons_self
      exact ⟨_, _, rfl, e1, a, (owL_of b).1, n1, n3⟩
theorem Hold.getO {v : V} {os : List O} (h : Hold K B Γ σ F H) (e : Γ[i]? = some (.ow v (.lst os))) : ∃ p vs, v = .ref p ∧ σ[i]? = some (some (.ref p)) ∧ H p = some (.lst vs) := by
  obtain ⟨fp, S⟩ := h.sl
  obtain ⟨x, e1, e2⟩ := S.r i _ e
  generalize fp i = as at e2
  cases e2 with
  | ow q => cases q with
    | lst a b => exact ⟨_, _, rfl, e1, a⟩
theorem set_self {α : Type} {l : List α} {i : Nat} {x : α} (h : l[i]? = some x) : l.set i x = l := by
  obtain ⟨hi, e⟩ := List.getElem?_eq_some_iff.mp h
  rw [← e, List.set_getElem_self hi]
/-- it is changed -/
theorem Hold.mutL {p : Addr} {vs vs' : List V} {ds ds' : List D} (h : Hold K B Γ σ F H) (e : Γ[i]? = some (.ow (.ref p) (oL ds))) (es : σ[i]? = some (some (.ref p))) (hp : H p = some (.lst vs)) (q : IsL K F vs' ds') :
    Hold K B (Γ.set i (.ow (.ref p) (oL ds'))) σ F (upd H p (.lst vs')) := by
  obtain ⟨fp, S⟩ := h.sl
  obtain ⟨x, e1, e2⟩ := S.r i _ e
  rw [es] at e1
  cases e1
  have fi : fp i = [p] := by
    generalize fp i = as at e2
    cases e2 with
    | ow q => cases q with
      | lst a b => rw [(owL_of b).2]
  have pi : p ∈ fp i := by rw [fi]; exact List.mem_singleton.mpr rfl
  obtain ⟨n1, _, n3⟩ := S.ok i p pi
  have hne : ∀ {j a}, j ≠ i → a ∈ fp j → a ≠ p := fun {j a} hj m z => hj (S.ap j i a m (z ▸ pi))
  have T := S.put (F' := F) (H' := upd H p (.lst vs')) (i := i) (x := some (.ref p)) (as := [p]) (s := .ow (.ref p) (oL ds')) h.len (.ow (.lst upd_same (owL_im q))) (by simp) (fun a m => ?_) (fun a m => ?_) (.refl F)
    (fun j a u hj m z => by rw [upd_ne (hne hj m)]; exact z) (fun j a _ m => (S.ok j a m).1) (fun a u m z => ?_)
  · rw [set_self es] at T
    refine ⟨by rw [List.length_set]; exact h.len, ⟨_, T⟩, fun a u z => ?_, h.ff, h.nw, fun a o z m => ?_, tbs_upd h.tb hp pl_lst⟩
    · rw [upd_ne (ne_of_none z n1)]; exact h.ex a u z
    · have : a ≠ p := by
        rintro rfl
        rcases n3 with w | w
        · exact m w
        · rw [z] at w; cases w
      rw [upd_ne this]; exact h.fr a o z m
  · cases List.mem_singleton.mp m
    exact .inl pi
  · cases List.mem_singleton.mp m
    exact ⟨n1, by rw [upd_same]; exact nofun, n3⟩
  · cases List.mem_singleton.mp m
    rw [upd_same] at z
    cases z
    exact pl_lst
/-- from now on it stays as it is -/
theorem Hold.freeze {v : V} {ds : List D} (h : Hold K B Γ σ F H) (e : Γ[i]? = some (.ow v (oL ds))) : ∃ p F', σ[i]? = some (some (.ref p)) ∧ Same F F' ∧ Is K F' (.ref p) (.lst ds) ∧ Hold K B (Γ.set i (.im (.lst ds))) σ F' H := by
  obtain ⟨fp, S⟩ := h.sl
  obtain ⟨x, e1, e2⟩ := S.r i _ e
  generalize hf : fp i = as at e2
  cases e2 with
  | ow q => cases q with
    | lst a b =>
      rename_i p vs bs
      obtain ⟨b1, b2⟩ := owL_of b
      subst b2
      have pi : p ∈ fp i := by rw [hf]; exact List.mem_singleton.mpr rfl
      obtain ⟨n1, _, n3⟩ := S.ok i p pi
      have sf : Same F (upd F p (.lst vs)) := same_new n1
      have q : Is K (upd F p (.lst vs)) (.ref p) (.lst ds) := .lst upd_same (b1.up (Up.of sf))
      have T := S.put (F' := upd F p (.lst vs)) (H' := H) (i := i) (x := some (.ref p)) (as := []) (s := .im (.lst ds)) h.len (.im q) List.nodup_nil (fun _ m => nomatch m) (fun _ m => nomatch m) sf
        (fun _ _ _ _ _ z => z) (fun j a hj m => by
          have hap : a ≠ p := fun z => hj (S.ap j i a m (by rw [z]; exact pi))
          rw [upd_ne hap]
          exact (S.ok j a m).1) fun _ _ m => nomatch m
      rw [set_self e1] at T
      refine ⟨p, _, e1, sf, q, by rw [List.length_set]; exact h.len, ⟨_, T⟩, fun c u z => ?_, h.ff.trans sf, fun c u z => ?_, h.fr, h.tb⟩
      · by_cases w : c = p
        · subst w; rw [upd_same] at z; cases z; exact a
        · rw [upd_ne w] at z; exact h.ex c u z
      · by_cases w : c = p
        · subst w; exact .inr n3.symm
        · rw [upd_ne w] at z; exact h.nw c u z

/-- the same, seen from here on -/
theorem Hold.here (h : Hold K B Γ σ F H) : ∃ ft, Hold K ⟨F, H, ft⟩ Γ σ F H ∧ (∀ a, ft a → F a = none ∧ H a ≠ none ∧ (B.ft a ∨ B.H0 a = none)) := by
  obtain ⟨fp, S⟩ := h.sl
  refine ⟨fun a => ∃ i, a ∈ fp i, ⟨h.len, ⟨fp, S.r, S.nd, S.ap, fun i a m => ⟨(S.ok i a m).1, (S.ok i a m).2.1, .inl ⟨i, m⟩⟩, S.pl⟩, h.ex, .refl F, fun _ _ e => .inl e, fun _ _ e _ => .inl e, h.tb⟩, ?_⟩
  rintro a ⟨i, m⟩
  exact S.ok i a m
/-- and back -/
theorem Hold.back {σ' : St} {ft : Addr → Prop} (h : Hold K B Γ σ F H) (hf : ∀ a, ft a → F a = none ∧ H a ≠ none ∧ (B.ft a ∨ B.H0 a = none)) (q : Hold K ⟨F, H, ft⟩ Γ' σ' F' H') : Hold K B Γ' σ' F' H' := by
  obtain ⟨fp, S⟩ := q.sl
  refine ⟨q.len, ⟨fp, S.r, S.nd, S.ap, fun i a m => ?_, S.pl⟩, q.ex, h.ff.trans q.ff, fun a o e => ?_, fun a o e m => ?_, q.tb⟩
  · obtain ⟨e1, e2, e3⟩ := S.ok i a m
    refine ⟨e1, e2, ?_⟩
    rcases e3 with z | z
    · exact (hf a z).2.2
    · exact (h.fresh z).symm
  · rcases q.nw a o e with z | z | z
    · exact h.nw a o z
    · exact .inr (h.fresh z)
    · exact .inr (hf a z).2.2.symm
  · have nf : ¬ ft a := fun z => by
      rcases (hf a z).2.2 with w | w
      · exact m w
      · rw [e] at w; cases w
    rcases h.fr a o e m with z | ⟨z, ps, y⟩
    · exact q.fr a o z nf
    · rcases q.fr a _ y nf with w | ⟨_, w⟩
      · exact .inr ⟨z, ps, w⟩
      · exact .inr ⟨z, w⟩
/-- c is nobody's: it stands in H, is not frozen, and no slot holds it -/
structure Lon (K : PySem.W.Frag) (B : Bs) (Γ : List Sl) (σ : St) (F H : Hp) (c : Addr) (o : HO) : Prop where
  at' : H c = some o
  pl : Pl o
  fn : F c = none
  hb : Hold K B Γ σ F H
  ex : ∃ ft, Hold K ⟨F, H, ft⟩ Γ σ F H ∧ (∀ a, ft a → F a = none ∧ H a ≠ none ∧ (B.ft a ∨ B.H0 a = none)) ∧ ¬ ft c
variable {c : Addr} {o o' : HO} {ft : Addr → Prop}
theorem Lon.start (h : Hold K B Γ σ F H) (hc : H c = none) (po : Pl o) : Lon K B Γ σ F (upd H c o) c o := by
  have st : Stp F H F (upd H c o) := ⟨.refl F, h.ex.trans (same_new hc), .of (same_new hc), fun _ _ q => .inl q, fun t => tbs_ext t (same_new hc)⟩
  obtain ⟨fp, S⟩ := h.sl
  have ne : ∀ {j a}, a ∈ fp j → a ≠ c := fun {j a} m z => (S.ok j a m).2.1 (z ▸ hc)
  refine ⟨upd_same, po, h.ex.free hc, h.stp st, fun a => ∃ i, a ∈ fp i, ⟨h.len, ⟨fp, fun i s e => ?_, S.nd, S.ap, fun i a m => ?_, fun i a u m z => S.pl i a u m (by rw [upd_ne (ne m)] at z; exact z)⟩, st.e, .refl F, fun _ _ e => .inl e, fun _ _ e _ => .inl e, st.t h.tb⟩, ?_, ?_⟩
  · obtain ⟨x, e1, e2⟩ := S.r i s e
    exact ⟨x, e1, e2.keep (.refl F) fun a u _ z => same_new hc a u z⟩
  · obtain ⟨n1, n2, n3⟩ := S.ok i a m
    exact ⟨n1, by rw [upd_ne (ne m)]; exact n2, .inl ⟨i, m⟩⟩
  · rintro a ⟨i, m⟩
    obtain ⟨n1, n2, n3⟩ := S.ok i a m
    exact ⟨n1, by rw [upd_ne (ne m)]; exact n2, n3⟩
  · rintro ⟨i, m⟩
    exact ne m rfl
/-- a step of others leaves it alone -/
theorem Lon.stay {σ' : St} (l : Lon K B Γ σ F H c o) (hf : ∀ a, ft a → F a = none ∧ H a ≠ none ∧ (B.ft a ∨ B.H0 a = none)) (n : ¬ ft c) (q : Hold K ⟨F, H, ft⟩ Γ' σ' F' H') : Lon K B Γ' σ' F' H' c o := by
  have hc : H' c = some o := q.frE l.at' n l.pl
  obtain ⟨ft', q', hf'⟩ := q.here
  refine ⟨hc, l.pl, ?_, l.hb.back hf q, ft', q', fun a z => ?_, fun z => ?_⟩
  · cases z : F' c with
    | none => rfl
    | some u =>
      rcases q.nw c u z with w | w | w
      · exact absurd (show F c = some u from w) (by rw [l.fn]; exact nofun)
      · exact absurd (show H c = none from w) (by rw [l.at']; exact nofun)
      · exact absurd w n
  · obtain ⟨n1, n2, n3⟩ := hf' a z
    refine ⟨n1, n2, ?_⟩
    rcases n3 with w | w
    · exact (hf a w).2.2
    · exact (l.hb.fresh w).symm
  · rcases (hf' c z).2.2 with w | w
    · exact n w
    · exact absurd (show H c = none from w) (by rw [l.at']; exact nofun)
theorem Lon.stp (l : Lon K B Γ σ F H c o) (s : Stp F H F' H') : Lon K B Γ σ F' H' c o := by
  obtain ⟨ft, q, hf, n⟩ := l.ex
  exact l.stay hf n (q.stp s)
/-- it is changed -/
theorem Lon.upd (l : Lon K B Γ σ F H c o) (h0 : B.H0 c = none ∨ B.ft c) (po : Pl o') : Lon K B Γ σ F (L2.upd H c o') c o' := by
  obtain ⟨ft, q, hf, n⟩ := l.ex
  obtain ⟨fp, S⟩ := q.sl
  have inft : ∀ {i a}, a ∈ fp i → ft a := fun {i a} m => by
    rcases (S.ok i a m).2.2 with w | w
    · exact w
    · exact absurd w (S.ok i a m).2.1
  have ne : ∀ {i a}, a ∈ fp i → a ≠ c := fun {i a} m z => n (z ▸ inft m)
  have sx : Same F (L2.upd H c o') := fun a u z => by rw [upd_ne (ne_of_none z l.fn)]; exact l.hb.ex a u z
  have sr : ∀ i s, Γ[i]? = some s → ∃ x, σ[i]? = some x ∧ SlR K F (L2.upd H c o') s x (fp i) := fun i s e => by
    obtain ⟨x, e1, e2⟩ := S.r i s e
    exact ⟨x, e1, e2.keep (.refl F) fun a u m z => by rw [upd_ne (ne m)]; exact z⟩
  have sp : ∀ i a u, a ∈ fp i → L2.upd H c o' a = some u → Pl u := fun i a u m z => S.pl i a u m (by rw [upd_ne (ne m)] at z; exact z)
  have tb : Tbs (L2.upd H c o') := tbs_upd l.hb.tb l.at' l.pl
  refine ⟨upd_same, po, l.fn, ⟨l.hb.len, ⟨fp, sr, S.nd, S.ap, fun i a m => ?_, sp⟩, sx, l.hb.ff, l.hb.nw, fun a u z w => ?_, tb⟩, ft, ⟨l.hb.len, ⟨fp, sr, S.nd, S.ap, fun i a m => ?_, sp⟩, sx, .refl F, fun _ _ e => .inl e, fun _ _ e _ => .inl e, tb⟩, fun a z => ?_, n⟩
  · exact ⟨(S.ok i a m).1, by rw [upd_ne (ne m)]; exact (S.ok i a m).2.1, (hf a (inft m)).2.2⟩
  · have ac : a ≠ c := by
      rintro rfl
      rcases h0 with y | y
      · rw [z] at y; cases y
      · exact w y
    rw [upd_ne ac]; exact l.hb.fr a u z w
  · exact ⟨(S.ok i a m).1, by rw [upd_ne (ne m)]; exact (S.ok i a m).2.1, .inl (inft m)⟩
  · have ac : a ≠ c := fun y => n (y ▸ z)
    obtain ⟨n1, n2, n3⟩ := hf a z
    exact ⟨n1, by rw [upd_ne ac]; exact n2, n3⟩
/-- in the end it is a new thing of this state -/
theorem Lon.done (l : Lon K B Γ σ F H c o) (h0 : B.H0 c = none ∨ B.ft c) : ∃ H1, Hold K B Γ σ F H1 ∧ H1 c = none ∧ H = L2.upd H1 c o := by
  obtain ⟨ft, q, hf, n⟩ := l.ex
  obtain ⟨fp, S⟩ := q.sl
  have inft : ∀ {i a}, a ∈ fp i → ft a := fun {i a} m => by
    rcases (S.ok i a m).2.2 with w | w
    · exact w
    · exact absurd w (S.ok i a m).2.1
  have ne : ∀ {i a}, a ∈ fp i → a ≠ c := fun {i a} m z => n (z ▸ inft m)
  let H1 : Hp := fun b => if b = c then none else H b
  have h1c : H1 c = none := if_pos rfl
  have h1n : ∀ {b}, b ≠ c → H1 b = H b := fun {b} h => if_neg h
  refine ⟨H1, ⟨l.hb.len, ⟨fp, fun i s e => ?_, S.nd, S.ap, fun i a m => ?_, fun i a u m z => S.pl i a u m (by rw [h1n (ne m)] at z; exact z)⟩, fun a u z => ?_, l.hb.ff, l.hb.nw, fun a u z w => ?_, tbs_less l.hb.tb l.at' l.pl fun b h => h1n h⟩, h1c, ?_⟩
  · obtain ⟨x, e1, e2⟩ := S.r i s e
    exact ⟨x, e1, e2.keep (.refl F) fun a u m z => by rw [h1n (ne m)]; exact z⟩
  · exact ⟨(S.ok i a m).1, by rw [h1n (ne m)]; exact (S.ok i a m).2.1, (hf a (inft m)).2.2⟩
  · rw [h1n (ne_of_none z l.fn)]; exact l.hb.ex a u z
  · have ac : a ≠ c := by
      rintro rfl
      rcases h0 with y | y
      · rw [z] at y; cases y
      · exact w y
    rw [h1n ac]; exact l.hb.fr a u z w
  · funext b
    by_cases z : b = c
    · subst z; rw [upd_same]; exact l.at'
    · rw [upd_ne z, h1n z]
/-! ### a dict is locked while a loop walks it -/
def noFd : List Sl → Bool
  | [] => true
  | .fd _ :: _ => false
  | _ :: l => noFd l
theorem noFd_ne : ∀ {l : List Sl}, noFd l = true → ∀ (j : Nat) (s : Sl), l[j]? = some s → ∀ kvs, s ≠ .fd kvs
  | [], _, j, s, e, _ => by simp at e
  | s0 :: l, h, 0, s, e, kvs => by
    cases e
    intro z
    subst z
    cases h
  | s0 :: l, h, j + 1, s, e, kvs => by
    have h' : noFd l = true := by
      cases s0 <;> first | exact h | cases h
    exact noFd_ne h' j s e kvs
theorem up_lock {F : Hp} {d : Addr} {vs : List (Key × V)} {od : Obj} (e : F d = some (.dK vs)) : Up F (upd F d (.frz od (.dK vs))) := by
  refine ⟨fun a x _ r => ?_, fun a xs r => ?_, fun a C dx fs r => by rw [upd_ne (fun z => by rw [z, e] at r; cases r)]; exact r, fun a f r => by rw [upd_ne (fun z => by rw [z, e] at r; cases r)]; exact r⟩
  · by_cases z : a = d
    · subst z
      rcases r with w | ⟨o, w⟩
      · rw [e] at w; cases w; exact .inr ⟨od, upd_same⟩
      · rw [e] at w; cases w
    · rcases r with w | ⟨o, w⟩
      · exact .inl (by rw [upd_ne z]; exact w)
      · exact .inr ⟨o, by rw [upd_ne z]; exact w⟩
  · have z : a ≠ d := by
      rintro rfl
      rw [e] at r; cases r
    rw [upd_ne z]; exact r
theorem up_unlock {F : Hp} {d : Addr} {vs : List (Key × V)} {od : Obj} (e : F d = some (.frz od (.dK vs))) : Up F (upd F d (.dK vs)) := by
  refine ⟨fun a x hx r => ?_, fun a xs r => ?_, fun a C dx fs r => by rw [upd_ne (fun z => by rw [z, e] at r; cases r)]; exact r, fun a f r => by rw [upd_ne (fun z => by rw [z, e] at r; cases r)]; exact r⟩
  · by_cases z : a = d
    · subst z
      rcases r with w | ⟨o, w⟩
      · rw [e] at w; cases w; exact hx.elim
      · rw [e] at w; cases w; exact .inl upd_same
    · rcases r with w | ⟨o, w⟩
      · exact .inl (by rw [upd_ne z]; exact w)
      · exact .inr ⟨o, by rw [upd_ne z]; exact w⟩
  · have z : a ≠ d := by
      rintro rfl
      rw [e] at r; cases r
    rw [upd_ne z]; exact r
theorem Hold.lock {d : Addr} {vs : List (Key × V)} (h : Hold K B Γ σ F H) (nf : noFd Γ = true) (e : F d = some (.dK vs)) (od : Obj) : ∃ ft, (∀ a, ft a → F a = none ∧ H a ≠ none ∧ (B.ft a ∨ B.H0 a = none)) ∧
    Hold K ⟨upd F d (.frz od (.dK vs)), upd H d (.frz od (.dK vs)), ft⟩ Γ σ (upd F d (.frz od (.dK vs))) (upd H d (.frz od (.dK vs))) := by
  obtain ⟨fp, S⟩ := h.sl
  have nd : ∀ j, d ∉ fp j := fun j m => by rw [(S.ok j d m).1] at e; cases e
  have ne : ∀ {j a}, a ∈ fp j → a ≠ d := fun {j a} m z => nd j (z ▸ m)
  refine ⟨fun a => ∃ i, a ∈ fp i, fun a ⟨i, m⟩ => S.ok i a m, h.len, ⟨fp, fun i s es => ?_, S.nd, S.ap, fun i a m => ?_, fun i a u m z => S.pl i a u m (by rw [upd_ne (ne m)] at z; exact z)⟩, fun a u q => ?_, .refl _, fun a u q => .inl q, fun a u q _ => .inl q, tbs_upd h.tb (h.ex d _ e) pl_dK⟩
  · obtain ⟨x, e1, e2⟩ := S.r i s es
    exact ⟨x, e1, e2.keepU (up_lock e) (noFd_ne nf i s es) fun a u m z => by rw [upd_ne (ne m)]; exact z⟩
  · obtain ⟨n1, n2, _⟩ := S.ok i a m
    exact ⟨by rw [upd_ne (ne m)]; exact n1, by rw [upd_ne (ne m)]; exact n2, .inl ⟨i, m⟩⟩
  · by_cases z : a = d
    · subst z; rw [upd_same] at q ⊢; exact q
    · rw [upd_ne z] at q ⊢; exact h.ex a u q
theorem Hold.unlock {d : Addr} {vs : List (Key × V)} {ft : Addr → Prop} {od : Obj} {σ' : St} {F1 H1 : Hp} (h : Hold K B Γ σ F H) (e : F d = some (.dK vs)) (hf : ∀ a, ft a → F a = none ∧ H a ≠ none ∧ (B.ft a ∨ B.H0 a = none))
    (q : Hold K ⟨upd F d (.frz od (.dK vs)), upd H d (.frz od (.dK vs)), ft⟩ Γ' σ' F1 H1) (nf : noFd Γ' = true) :
    F1 d = some (.frz od (.dK vs)) ∧ H1 d = some (.frz od (.dK vs)) ∧ Same F (upd F1 d (.dK vs)) ∧ Hold K B Γ' σ' (upd F1 d (.dK vs)) (upd H1 d (.dK vs)) := by
  have ed : F1 d = some (.frz od (.dK vs)) := q.ff d _ upd_same
  have eH : H1 d = some (.frz od (.dK vs)) := q.ex d _ ed
  have hd : H d = some (.dK vs) := h.ex d _ e
  obtain ⟨fp, S⟩ := q.sl
  have nd : ∀ j, d ∉ fp j := fun j m => by rw [(S.ok j d m).1] at ed; cases ed
  have ne : ∀ {j a}, a ∈ fp j → a ≠ d := fun {j a} m z => nd j (z ▸ m)
  have sf : Same F (upd F1 d (.dK vs)) := fun a u z => by
    by_cases w : a = d
    · subst w; rw [e] at z; rw [upd_same]; exact z
    · rw [upd_ne w]
      refine q.ff a u ?_
      show upd F d (.frz od (.dK vs)) a = some u
      rw [upd_ne w]; exact z
  have nft : ¬ ft d := fun z => by rw [(hf d z).1] at e; cases e
  refine ⟨ed, eH, sf, h.back hf ⟨q.len, ⟨fp, fun i s es => ?_, S.nd, S.ap, fun i a m => ?_, fun i a u m z => S.pl i a u m (by rw [upd_ne (ne m)] at z; exact z)⟩, fun a u z => ?_, sf, fun a u z => ?_, fun a u z w => ?_, tbs_upd q.tb eH pl_frz⟩⟩
  · obtain ⟨x, e1, e2⟩ := S.r i s es
    exact ⟨x, e1, e2.keepU (up_unlock ed) (noFd_ne nf i s es) fun a u m z => by rw [upd_ne (ne m)]; exact z⟩
  · obtain ⟨n1, n2, n3⟩ := S.ok i a m
    refine ⟨by rw [upd_ne (ne m)]; exact n1, by rw [upd_ne (ne m)]; exact n2, n3.imp id fun z => ?_⟩
    have z' : upd H d (.frz od (.dK vs)) a = none := z
    rw [upd_ne (ne m)] at z'; exact z'
  · by_cases w : a = d
    · subst w; rw [upd_same] at z ⊢; exact z
    · rw [upd_ne w] at z ⊢; exact q.ex a u z
  · by_cases w : a = d
    · subst w; rw [upd_same] at z; cases z; exact .inl e
    · rw [upd_ne w] at z
      rcases q.nw a u z with y | y | y
      · have y' : upd F d (.frz od (.dK vs)) a = some u := y
        rw [upd_ne w] at y'; exact .inl y'
      · have y' : upd H d (.frz od (.dK vs)) a = none := y
        rw [upd_ne w] at y'; exact .inr (.inl y')
      · exact .inr (.inr y)
  · by_cases y : a = d
    · subst y
      have z' : H a = some u := z
      rw [hd] at z'; rw [upd_same]; exact .inl z'
    · rw [upd_ne y]
      refine q.fr a u ?_ w
      show upd H d (.frz od (.dK vs)) a = some u
      rw [upd_ne y]; exact z
/-- the slot of a locked dict -/
theorem Hold.getF {kvs : List (Key × D)} (h : Hold K B Γ σ F H) (e : Γ[i]? = some (.fd kvs)) : ∃ a o vs, σ[i]? = some (some (.ref a)) ∧ F a = some (.frz o (.dK vs)) ∧ IsK K F vs kvs := by
  obtain ⟨fp, S⟩ := h.sl
  obtain ⟨x, e1, e2⟩ := S.r i _ e
  generalize fp i = as at e2
  cases e2 with | fd a b => exact ⟨_, _, _, e1, a, b⟩
theorem Hold.setF {a : Addr} {o : Obj} {vs : List (Key × V)} {kvs : List (Key × D)} (h : Hold K B Γ σ F H) (es : σ[i]? = some (some (.ref a))) (e : F a = some (.frz o (.dK vs))) (q : IsK K F vs kvs) : Hold K B (Γ.set i (.fd kvs)) σ F H := by
  obtain ⟨fp, S⟩ := h.sl
  refine ⟨by rw [List.length_set]; exact h.len, ⟨pf fp i [], ?_⟩, h.ex, h.ff, h.nw, h.fr, h.tb⟩
  have T := S.put (i := i) (x := some (.ref a)) (as := []) (F' := F) (H' := H) (s := .fd kvs) h.len (.fd e q) List.nodup_nil (fun _ m => nomatch m) (fun _ m => nomatch m) (.refl F) (fun _ _ _ _ _ z => z) (fun j a _ m => (S.ok j a m).1) fun _ _ m => nomatch m
  rw [set_self es] at T
  exact T
theorem Hold.setI {v : V} {d : D} (h : Hold K B Γ σ F H) (es : σ[i]? = some (some v)) (q : Is K F v d) : Hold K B (Γ.set i (.im d)) σ F H := by
  have := h.set (i := i) q
  rw [set_self es] at this
  exact this
end
end Nd
/-! Part 2: the judgements over data, names, constants, operators, tests. -/
namespace Nd
open PySem PySem.Spec L2
open PyProof.Rows hiding St
variable [Tb]

/-! ### what the model wants, as readings -/
def wE (X : Cx) (e : Expr) : TE := fun σ H Q => ∀ pins s, Inv X pins σ H s → wpAny (model X.prog X.w) X.A (eval e X.env) (EP X pins σ Q) X.xe s
def wT (X : Cx) (e : Expr) : TT := fun σ H Q => ∀ pins s, Inv X pins σ H s → wpAny (model X.prog X.w) X.A (isTrue e X.env (eval e X.env)) (TP X pins σ Q) X.xe s
def wA (X : Cx) (es : List Expr) : TA := fun σ H Q => ∀ pos pins s, Inv X pins σ H s → wpAny (model X.prog X.w) X.A (spliced (backTo pos (starEach es X.env))) (AP X pins σ Q) X.xe s
def wS (X : Cx) (st : Stmt) : TS := fun E σ H => ∀ pins s, Inv X pins σ H s → wpAny (model X.prog X.w) X.A (exec st X.env) (SP X pins E) X.xe s
def wSs (X : Cx) (st : List Stmt) : TS := fun E σ H => ∀ pins s, Inv X pins σ H s → wpAny (model X.prog X.w) X.A (execs st X.env) (SP X pins E) X.xe s
theorem peW {X : Cx} {e : Expr} : PE X e (wE X e) := ⟨fun pins s _ _ _ I h => h pins s I⟩
theorem ptW {X : Cx} {e : Expr} : PT X e (wT X e) := ⟨fun pins s _ _ _ I h => h pins s I⟩
theorem paW {X : Cx} {es : List Expr} : PA X es (wA X es) := ⟨fun pos pins s _ _ _ I h => h pos pins s I⟩
theorem psW {X : Cx} {e : Stmt} : PS X e (wS X e) := ⟨fun pins s _ _ _ I h => h pins s I⟩
theorem pssW {X : Cx} {e : List Stmt} : PSs X e (wSs X e) := ⟨fun pins s _ _ _ I h => h pins s I⟩
theorem e_of {X : Cx} {e : Expr} {t : TE} {σ : St} {H : Hp} {Q : VK} (h : PE X e t) (q : t σ H Q) : wE X e σ H Q := fun pins s I => h.run pins s σ H Q I q
theorem t_of {X : Cx} {e : Expr} {t : TT} {σ : St} {H : Hp} {Q : Bool → Hp → Prop} (h : PT X e t) (q : t σ H Q) : wT X e σ H Q := fun pins s I => h.run pins s σ H Q I q
theorem a_of {X : Cx} {e : List Expr} {t : TA} {σ : St} {H : Hp} {Q : List V → Hp → Prop} (h : PA X e t) (q : t σ H Q) : wA X e σ H Q := fun pos pins s I => h.run pos pins s σ H Q I q
theorem s_of {X : Cx} {e : Stmt} {t : TS} {σ : St} {H : Hp} {E : Ends} (h : PS X e t) (q : t E σ H) : wS X e E σ H := fun pins s I => h.run pins s σ H E I q
theorem ss_of {X : Cx} {e : List Stmt} {t : TS} {σ : St} {H : Hp} {E : Ends} (h : PSs X e t) (q : t E σ H) : wSs X e E σ H := fun pins s I => h.run pins s σ H E I q

/-! ### the judgements over data -/
abbrev Ga := List Sl
structure dE (X : Cx) (e : Expr) (Γ : Ga) (P : D → Ga → Prop) : Prop where
  run : ∀ B σ F H (Q : VK), Hold X.K B Γ σ F H →
  (∀ v d Γ' F' H', P d Γ' → Same F F' → Hold X.K B Γ' σ F' H' → Is X.K F' v d → Q v H') → wE X e σ H Q
instance {X : Cx} {e : Expr} {Γ : Ga} {P : D → Ga → Prop} : CoeFun (dE X e Γ P) fun _ => (∀ B σ F H (Q : VK), Hold X.K B Γ σ F H →
  (∀ v d Γ' F' H', P d Γ' → Same F F' → Hold X.K B Γ' σ F' H' → Is X.K F' v d → Q v H') → wE X e σ H Q) := ⟨fun h => h.run⟩
structure dT (X : Cx) (e : Expr) (Γ : Ga) (P : Bool → Ga → Prop) : Prop where
  run : ∀ B σ F H (Q : Bool → Hp → Prop), Hold X.K B Γ σ F H →
  (∀ b Γ' F' H', P b Γ' → Same F F' → Hold X.K B Γ' σ F' H' → Q b H') → wT X e σ H Q
instance {X : Cx} {e : Expr} {Γ : Ga} {P : Bool → Ga → Prop} : CoeFun (dT X e Γ P) fun _ => (∀ B σ F H (Q : Bool → Hp → Prop), Hold X.K B Γ σ F H →
  (∀ b Γ' F' H', P b Γ' → Same F F' → Hold X.K B Γ' σ F' H' → Q b H') → wT X e σ H Q) := ⟨fun h => h.run⟩
/-- an argument: data, or the thing that a slot alone holds -/
inductive Ar where
  | d (x : D) | s (i : Nat)
inductive ArR (K : PySem.W.Frag) (F : Hp) (σ : St) : List V → List Ar → Prop
  | nil : ArR K F σ [] []
  | d {v : V} {x : D} {vs : List V} {as : List Ar} : Is K F v x → ArR K F σ vs as → ArR K F σ (v :: vs) (.d x :: as)
  | s {v : V} {i : Nat} {vs : List V} {as : List Ar} : σ[i]? = some (some v) → ArR K F σ vs as → ArR K F σ (v :: vs) (.s i :: as)
theorem ArR.up {K : PySem.W.Frag} {F G : Hp} {σ : St} (h : Up F G) : ∀ {vs : List V} {as : List Ar}, ArR K F σ vs as → ArR K G σ vs as
  | _, _, .nil => .nil
  | _, _, .d a b => .d (a.up h) (b.up h)
  | _, _, .s a b => .s a (b.up h)
theorem ArR.isL {K : PySem.W.Frag} {F : Hp} {σ : St} : ∀ {ds : List D} {vs : List V}, ArR K F σ vs (ds.map Ar.d) → IsL K F vs ds
  | [], _, .nil => .nil
  | _ :: _, _, .d a b => .cons a (ArR.isL b)
structure dA (X : Cx) (es : List Expr) (Γ : Ga) (P : List Ar → Ga → Prop) : Prop where
  run : ∀ B σ F H (Q : List V → Hp → Prop), Hold X.K B Γ σ F H →
  (∀ vs as Γ' F' H', P as Γ' → Same F F' → Hold X.K B Γ' σ F' H' → ArR X.K F' σ vs as → Q vs H') → wA X es σ H Q
instance {X : Cx} {es : List Expr} {Γ : Ga} {P : List Ar → Ga → Prop} : CoeFun (dA X es Γ P) fun _ => (∀ B σ F H (Q : List V → Hp → Prop), Hold X.K B Γ σ F H →
  (∀ vs as Γ' F' H', P as Γ' → Same F F' → Hold X.K B Γ' σ F' H' → ArR X.K F' σ vs as → Q vs H') → wA X es σ H Q) := ⟨fun h => h.run⟩
structure Ou where
  nx : Ga → Prop
  rt : D → Ga → Prop
  bk : Ga → Prop := fun _ => False
  ct : Ga → Prop := fun _ => False
  rn : List D → Ga → Prop := fun _ _ => False
structure OuOk (K : PySem.W.Frag) (B : Bs) (F : Hp) (P : Ou) (E : Ends) : Prop where
  nx : ∀ σ Γ F' H', P.nx Γ → Same F F' → Hold K B Γ σ F' H' → E.nx σ H'
  rt : ∀ v d σ Γ F' H', P.rt d Γ → Same F F' → Hold K B Γ σ F' H' → Is K F' v d → E.rt v H'
  bk : ∀ σ Γ F' H', P.bk Γ → Same F F' → Hold K B Γ σ F' H' → E.bk σ H'
  ct : ∀ σ Γ F' H', P.ct Γ → Same F F' → Hold K B Γ σ F' H' → E.ct σ H'
  rn : ∀ p vs ds σ Γ F' H', P.rn ds Γ → Same F F' → Hold K B Γ σ F' H' → H' p = none → IsL K F' vs ds → E.rt (.ref p) (upd H' p (.lst vs))
theorem OuOk.up {K : PySem.W.Frag} {B : Bs} {F G : Hp} {P : Ou} {E : Ends} (h : OuOk K B F P E) (u : Same F G) : OuOk K B G P E :=
  ⟨fun σ Γ F' H' a b => h.nx σ Γ F' H' a (u.trans b), fun v d σ Γ F' H' a b => h.rt v d σ Γ F' H' a (u.trans b), fun σ Γ F' H' a b => h.bk σ Γ F' H' a (u.trans b), fun σ Γ F' H' a b => h.ct σ Γ F' H' a (u.trans b),
    fun p vs ds σ Γ F' H' a b => h.rn p vs ds σ Γ F' H' a (u.trans b)⟩
structure dS (X : Cx) (st : Stmt) (Γ : Ga) (P : Ou) : Prop where
  run : ∀ B σ F H (E : Ends), Hold X.K B Γ σ F H → OuOk X.K B F P E → wS X st E σ H
instance {X : Cx} {st : Stmt} {Γ : Ga} {P : Ou} : CoeFun (dS X st Γ P) fun _ => (∀ B σ F H (E : Ends), Hold X.K B Γ σ F H → OuOk X.K B F P E → wS X st E σ H) := ⟨fun h => h.run⟩
structure dSs (X : Cx) (st : List Stmt) (Γ : Ga) (P : Ou) : Prop where
  run : ∀ B σ F H (E : Ends), Hold X.K B Γ σ F H → OuOk X.K B F P E → wSs X st E σ H

instance {X : Cx} {st : List Stmt} {Γ : Ga} {P : Ou} : CoeFun (dSs X st Γ P) fun _ => (∀ B σ F H (E : Ends), Hold X.K B Γ σ F H → OuOk X.K B F P E → wSs X st E σ H
) := ⟨fun h => h.run⟩
section
variable {X : Cx} {a b c e : Expr} {es : List Expr} {pos : Pos} {Γ : Ga} {P : D → Ga → Prop} {PT' : Bool → Ga → Prop} {PO' : Ou}

/-! ### general combinators -/
/-- an expression whose reading needs no parts -/
theorem dE_flat {t : TE} (h : PE X e t) (k : ∀ B σ F H (Q : VK), Hold X.K B Γ σ F H → (∀ v d F' H', P d Γ → Stp F H F' H' → Is X.K F' v d → Q v H') → t σ H Q) : dE X e Γ P := .mk fun B σ F H Q hh hq =>
  e_of h (k B σ F H Q hh fun v d F' H' p s q => hq v d Γ F' H' p s.f (hh.stp s) q)
/-- a one-place operation on data -/
def U1 (X : Cx) (r : V → Hp → VK → Prop) (x : D) (G : D → Prop) : Prop := ∀ v F H (Q : VK), Is X.K F v x → Same F H → (∀ z d F' H', G d → Stp F H F' H' → Is X.K F' z d → Q z H') → r v H Q
def U2 (X : Cx) (r : R2) (x y : D) (G : D → Prop) : Prop := ∀ v u F H (Q : VK), Is X.K F v x → Is X.K F u y → Same F H → (∀ z d F' H', G d → Stp F H F' H' → Is X.K F' z d → Q z H') → r v u H Q
def UL (X : Cx) (r : List V → Hp → VK → Prop) (xs : List D) (G : D → Prop) : Prop := ∀ vs F H (Q : VK), IsL X.K F vs xs → Same F H → (∀ z d F' H', G d → Stp F H F' H' → Is X.K F' z d → Q z H') → r vs H Q
theorem dE_un {r : V → Hp → VK → Prop} (h : PE X e (tUn r (wE X a))) (ha : dE X a Γ fun x Γ1 => ∃ G, U1 X r x G ∧ ∀ d, G d → P d Γ1) : dE X e Γ P := by
  refine ⟨?_⟩
  intro B σ F H Q hh hq
  refine e_of h (ha B σ F H _ hh ?_)
  rintro v x Γ1 F1 H1 ⟨G, hu, hg⟩ s1 h1 i1
  exact hu v F1 H1 Q i1 h1.ex fun z d F' H' g s q => hq z d Γ1 F' H' (hg d g) (s1.trans s.f) (h1.stp s) q
theorem dE_bin {r : R2} (h : PE X e (tOp r (wE X a) (wE X b))) (ha : dE X a Γ fun x Γ1 => dE X b Γ1 fun y Γ2 => ∃ G, U2 X r x y G ∧ ∀ d, G d → P d Γ2) : dE X e Γ P := by
  refine ⟨?_⟩
  intro B σ F H Q hh hq
  refine e_of h (ha B σ F H _ hh ?_)
  intro v x Γ1 F1 H1 hb s1 h1 i1
  refine hb B σ F1 H1 _ h1 ?_
  rintro u y Γ2 F2 H2 ⟨G, hu, hg⟩ s2 h2 i2
  exact hu v u F2 H2 Q (i1.up (Up.of s2)) i2 h2.ex fun z d F' H' g s q => hq z d Γ2 F' H' (hg d g) ((s1.trans s2).trans s.f) (h2.stp s) q
theorem dE_cb {r : List V → Hp → VK → Prop} (h : PE X e (tCB r (wA X es))) (ha : dA X es Γ fun as Γ1 => ∃ ds, as = ds.map Ar.d ∧ ∃ G, UL X r ds G ∧ ∀ d, G d → P d Γ1) : dE X e Γ P := by
  refine ⟨?_⟩
  intro B σ F H Q hh hq
  refine e_of h (ha B σ F H _ hh ?_)
  rintro vs as Γ1 F1 H1 ⟨ds, rfl, G, hu, hg⟩ s1 h1 i1
  exact hu vs F1 H1 Q i1.isL h1.ex fun z d F' H' g s q => hq z d Γ1 F' H' (hg d g) (s1.trans s.f) (h1.stp s) q
theorem dE_mono {P' : D → Ga → Prop} (h : dE X e Γ P) (k : ∀ d Γ', P d Γ' → P' d Γ') : dE X e Γ P' := .mk fun B σ F H Q hh hq => h B σ F H Q hh fun v d Γ' F' H' p => hq v d Γ' F' H' (k d Γ' p)

/-! ### arguments -/
theorem dA_nil {P : List Ar → Ga → Prop} (k : P [] Γ) : dA X [] Γ P := .mk fun B σ F H Q hh hq => a_of pa_nil (hq [] [] Γ F H k (.refl F) hh .nil)
theorem dA_cons {P : List Ar → Ga → Prop} (h : dE X e Γ fun d Γ1 => dA X es Γ1 fun as Γ2 => P (.d d :: as) Γ2)
    (hs : starEach (e :: es) X.env = (false, eval e X.env) :: starEach es X.env := by rfl) : dA X (e :: es) Γ P := by
  refine ⟨?_⟩
  intro B σ F H Q hh hq
  refine a_of (pa_cons peW paW hs) (h B σ F H _ hh ?_)
  intro v d Γ1 F1 H1 h2 s1 h1 i1
  exact h2 B σ F1 H1 _ h1 fun vs as Γ2 F2 H2 p s2 q2 r => hq (v :: vs) (.d d :: as) Γ2 F2 H2 p (s1.trans s2) q2 (.d (i1.up (Up.of s2)) r)
/-- the thing that slot i alone holds, handed on -/
theorem dA_own {P : List Ar → Ga → Prop} {x : Str} {i : Nat} {v : V} {o : O} (hi : Γ[i]? = some (.ow v o)) (h : dA X es Γ fun as Γ2 => P (.s i :: as) Γ2)
    (hs : starEach (.Name x pos :: es) X.env = (false, eval (.Name x pos) X.env) :: starEach es X.env := by rfl) (hN : X.N[i]? = some x := by rfl)
    (hv : Vis X.env.scope x := by first | exact Or.inl rfl | exact Or.inr (Or.inl rfl) | exact Or.inr (Or.inr rfl)) (hd : (x == ("__debug__" : Str)) = false := by decide)
    (hcd : (x == ("__classdict__" : Str)) = false := by decide) : dA X (.Name x pos :: es) Γ P := by
  refine ⟨?_⟩
  intro B σ F H Q hh hq
  obtain ⟨fp, S⟩ := hh.sl
  obtain ⟨y, e1, e2⟩ := S.r i _ hi
  have ey : y = some v := by
    generalize fp i = as at e2
    cases e2; rfl
  subst ey
  refine a_of (pa_cons (pe_var hN hv hd hcd) paW hs) ⟨v, e1, ?_⟩
  exact h B σ F H _ hh fun vs as Γ2 F2 H2 p s2 q2 r => hq (v :: vs) (.s i :: as) Γ2 F2 H2 p s2 q2 (.s e1 r)

/-! ### names, constants -/
theorem dE_var {x : Str} {i : Nat} {d : D} (hi : Γ[i]? = some (.im d)) (k : P d Γ) (hN : X.N[i]? = some x := by rfl)
    (hv : Vis X.env.scope x := by first | exact Or.inl rfl | exact Or.inr (Or.inl rfl) | exact Or.inr (Or.inr rfl)) (hd : (x == ("__debug__" : Str)) = false := by decide)
    (hcd : (x == ("__classdict__" : Str)) = false := by decide) : dE X (.Name x pos) Γ P := by
  refine ⟨?_⟩
  intro B σ F H Q hh hq
  obtain ⟨v, e1, e2⟩ := hh.get hi
  exact e_of (pe_var hN hv hd hcd) ⟨v, e1, hq v d Γ F H k (.refl F) hh e2⟩
/-- the list that slot i alone holds: from now on it stays as it is -/
theorem dE_varO {x : Str} {i : Nat} {v : V} {ds : List D} (hi : Γ[i]? = some (.ow v (oL ds))) (k : P (.lst ds) (Γ.set i (.im (.lst ds)))) (hN : X.N[i]? = some x := by rfl)
    (hv : Vis X.env.scope x := by first | exact Or.inl rfl | exact Or.inr (Or.inl rfl) | exact Or.inr (Or.inr rfl)) (hd : (x == ("__debug__" : Str)) = false := by decide)
    (hcd : (x == ("__classdict__" : Str)) = false := by decide) : dE X (.Name x pos) Γ P := by
  refine ⟨?_⟩
  intro B σ F H Q hh hq
  obtain ⟨p, F', e1, sf, q, h'⟩ := hh.freeze hi
  exact e_of (pe_var hN hv hd hcd) ⟨.ref p, e1, hq _ _ _ F' H k sf h' q⟩
theorem dE_int {i : Int} {j p} (k : P (.int i) Γ) : dE X (.Constant (.int i) j p) Γ P := dE_flat pe_int fun B σ F H Q hh hq => hq _ _ F H k (.refl hh.ex) (.int i)
theorem dE_str {i : Str} {j p} (k : P (.str i) Γ) : dE X (.Constant (.str i) j p) Γ P := dE_flat pe_str fun B σ F H Q hh hq => hq _ _ F H k (.refl hh.ex) (.str i)
theorem dE_bl {i : Bool} {j p} (k : P (.bl i) Γ) : dE X (.Constant (.bool i) j p) Γ P := dE_flat pe_bl fun B σ F H Q hh hq => hq _ _ F H k (.refl hh.ex) (.bl i)
theorem dE_non {j p} (k : P .non Γ) : dE X (.Constant .none j p) Γ P := dE_flat pe_non fun B σ F H Q hh hq => hq _ _ F H k (.refl hh.ex) .non
/-- a module's constant, an int or a text -/
theorem dE_globI {x : Str} {i : Int} {t : Tok} (hm : X.mg x = some (.int i t)) (k : P (.int i) Γ) (hg : Gl X x := by rfl) (hd : (x == ("__debug__" : Str)) = false := by decide) : dE X (.Name x pos) Γ P :=
  dE_flat (pe_glob (v := .int i) hg hm ⟨t, rfl⟩ hd) fun B σ F H Q hh hq => hq _ _ F H k (.refl hh.ex) (.int i)
theorem dE_globS {x : Str} {i : Str} {t : Tok} (hm : X.mg x = some (.str i t)) (k : P (.str i) Γ) (hg : Gl X x := by rfl) (hd : (x == ("__debug__" : Str)) = false := by decide) : dE X (.Name x pos) Γ P :=
  dE_flat (pe_glob (v := .str i) hg hm ⟨t, rfl⟩ hd) fun B σ F H Q hh hq => hq _ _ F H k (.refl hh.ex) (.str i)

/-! ### operators -/
theorem u2_I {C : Int → Int → Prop} {g : Int → Int → V} {g' : Int → Int → D} (hg : ∀ K F i j, Is K F (g i j) (g' i j)) {i j : Int} (hc : C i j) : U2 X (rI C g) (.int i) (.int j) (fun d => d = g' i j) := by
  intro v u F H Q iv iu ex hq
  cases iv; cases iu
  exact ⟨i, j, rfl, rfl, hc, hq _ _ F H rfl (.refl ex) (hg _ _ _ _)⟩
theorem u2_I0 {g : Int → Int → V} {g' : Int → Int → D} (hg : ∀ K F i j, Is K F (g i j) (g' i j)) {i j : Int} : U2 X (rI0 g) (.int i) (.int j) (fun d => d = g' i j) := by
  intro v u F H Q iv iu ex hq
  cases iv; cases iu
  exact ⟨i, j, rfl, rfl, hq _ _ F H rfl (.refl ex) (hg _ _ _ _)⟩
/-- what is wanted of two ints -/
abbrev I2 (P : Int → Int → Prop) (x y : D) : Prop := ∃ i j, x = .int i ∧ y = .int j ∧ P i j
theorem dE_add (h : dE X a Γ fun x Γ1 => dE X b Γ1 fun y Γ2 => I2 (fun i j => P (.int (i + j)) Γ2) x y) : dE X (.BinOp a .Add b pos) Γ P :=
  dE_bin (pe_op op_add peW peW) (dE_mono h fun x Γ1 hb => dE_mono hb fun y Γ2 ⟨i, j, ex, ey, k⟩ => by subst ex ey; exact ⟨_, u2_I0 (g' := fun i j => .int (i + j)) fun _ _ _ _ => .int _, fun d e => e ▸ k⟩)
theorem dE_sub (h : dE X a Γ fun x Γ1 => dE X b Γ1 fun y Γ2 => I2 (fun i j => P (.int (i - j)) Γ2) x y) : dE X (.BinOp a .Sub b pos) Γ P :=
  dE_bin (pe_op op_sub peW peW) (dE_mono h fun x Γ1 hb => dE_mono hb fun y Γ2 ⟨i, j, ex, ey, k⟩ => by subst ex ey; exact ⟨_, u2_I0 (g' := fun i j => .int (i - j)) fun _ _ _ _ => .int _, fun d e => e ▸ k⟩)
theorem dE_mul (h : dE X a Γ fun x Γ1 => dE X b Γ1 fun y Γ2 => I2 (fun i j => CMulW i j ∧ P (.int (i * j)) Γ2) x y) : dE X (.BinOp a .Mult b pos) Γ P :=
  dE_bin (pe_op op_mulW peW peW) (dE_mono h fun x Γ1 hb => dE_mono hb fun y Γ2 ⟨i, j, ex, ey, hc, k⟩ => by subst ex ey; exact ⟨_, u2_I (g' := fun i j => .int (i * j)) (fun _ _ _ _ => .int _) hc, fun d e => e ▸ k⟩)
theorem dE_mod (h : dE X a Γ fun x Γ1 => dE X b Γ1 fun y Γ2 => I2 (fun i j => 0 < j ∧ P (.int (i % j)) Γ2) x y) : dE X (.BinOp a .Mod b pos) Γ P :=
  dE_bin (pe_op op_mod peW peW) (dE_mono h fun x Γ1 hb => dE_mono hb fun y Γ2 ⟨i, j, ex, ey, hc, k⟩ => by subst ex ey; exact ⟨_, u2_I (g' := fun i j => .int (i % j)) (fun _ _ _ _ => .int _) hc, fun d e => e ▸ k⟩)
theorem dE_fdiv (h : dE X a Γ fun x Γ1 => dE X b Γ1 fun y Γ2 => I2 (fun i j => CDivW i j ∧ P (.int (i / j)) Γ2) x y) : dE X (.BinOp a .FloorDiv b pos) Γ P :=
  dE_bin (pe_op op_fdivW peW peW) (dE_mono h fun x Γ1 hb => dE_mono hb fun y Γ2 ⟨i, j, ex, ey, hc, k⟩ => by subst ex ey; exact ⟨_, u2_I (g' := fun i j => .int (i / j)) (fun _ _ _ _ => .int _) hc, fun d e => e ▸ k⟩)
theorem dE_pow (h : dE X a Γ fun x Γ1 => dE X b Γ1 fun y Γ2 => I2 (fun i j => CPow i j ∧ P (.int (i ^ j.toNat)) Γ2) x y) : dE X (.BinOp a .Pow b pos) Γ P :=
  dE_bin (pe_op op_pow peW peW) (dE_mono h fun x Γ1 hb => dE_mono hb fun y Γ2 ⟨i, j, ex, ey, hc, k⟩ => by subst ex ey; exact ⟨_, u2_I (g' := fun i j => .int (i ^ j.toNat)) (fun _ _ _ _ => .int _) hc, fun d e => e ▸ k⟩)
theorem dE_neg (h : dE X a Γ fun x Γ1 => ∃ i, x = .int i ∧ P (.int (-i)) Γ1) : dE X (.UnaryOp .USub a pos) Γ P :=
  dE_un (pe_un un_neg peW) (dE_mono h fun x Γ1 ⟨i, ex, k⟩ => by
    subst ex
    refine ⟨fun d => d = .int (-i), ?_, fun d e => e ▸ k⟩
    intro v F H Q iv ex hq
    cases iv
    exact ⟨i, rfl, hq _ _ F H rfl (.refl ex) (.int _)⟩)
theorem dE_addS (h : dE X a Γ fun x Γ1 => dE X b Γ1 fun y Γ2 => ∃ i j, x = .str i ∧ y = .str j ∧ i.length + j.length ≤ sizeLine ∧ P (.str (i ++ j)) Γ2) : dE X (.BinOp a .Add b pos) Γ P :=
  dE_bin (pe_op op_add_str peW peW) (dE_mono h fun x Γ1 hb => dE_mono hb fun y Γ2 ⟨i, j, ex, ey, hc, k⟩ => by
    subst ex ey
    refine ⟨fun d => d = .str (i ++ j), ?_, fun d e => e ▸ k⟩
    intro v u F H Q iv iu ex hq
    cases iv; cases iu
    exact ⟨i, j, rfl, rfl, hc, hq _ _ F H rfl (.refl ex) (.str _)⟩)
end
end Nd
/-! Part 3: tests, comparisons, lists, tuples, texts, dicts. -/
namespace Nd
open PySem PySem.Spec L2
open PyProof.Rows hiding St
variable [Tb]

section
variable {X : Cx} {a b c e : Expr} {es : List Expr} {pos : Pos} {Γ : Ga} {P : D → Ga → Prop} {R : Bool → Ga → Prop}

/-! ### tests -/
theorem dT_mono {R' : Bool → Ga → Prop} (h : dT X e Γ R) (k : ∀ d Γ', R d Γ' → R' d Γ') : dT X e Γ R' := .mk fun B σ F H Q hh hq => h B σ F H Q hh fun d Γ' F' H' p => hq d Γ' F' H' (k d Γ' p)
theorem dT_val (h : dE X e Γ fun d Γ1 => ∃ k, d = .bl k ∧ R k Γ1) (he : ∀ whole, isTrue e X.env whole = (do let v ← whole; standAt e.pos; holding [v] (truthy v)) := by intro _; rfl) : dT X e Γ R := by
  refine ⟨?_⟩
  intro B σ F H Q hh hq
  refine t_of (pt_val peW he) (h B σ F H _ hh ?_)
  rintro v d Γ1 F1 H1 ⟨k, rfl, r⟩ s1 h1 i1
  cases i1
  exact ⟨k, rfl, hq k Γ1 F1 H1 r s1 h1⟩
theorem dT_not (h : dT X a Γ fun k Γ1 => R (!k) Γ1) : dT X (.UnaryOp .Not a pos) Γ R := .mk fun B σ F H Q hh hq => t_of (pt_not ptW) (h B σ F H _ hh fun k Γ1 F1 H1 r s1 h1 => hq (!k) Γ1 F1 H1 r s1 h1)
/-- and, or as tests -/
def wW (X : Cx) (e : Expr) : TT := fun σ H Q => ∀ whole pins s, Inv X pins σ H s → wpAny (model X.prog X.w) X.A (isTrue e X.env whole) (TP X pins σ Q) X.xe s
theorem pwW : PW X e (wW X e) := ⟨fun whole pins s _ _ _ I h => h whole pins s I⟩
theorem w_of {t : TT} {σ : St} {H : Hp} {Q : Bool → Hp → Prop} (h : PW X e t) (q : t σ H Q) : wW X e σ H Q := fun wh pins s I => h.run wh pins s σ H Q I q
structure dW (X : Cx) (e : Expr) (Γ : Ga) (P : Bool → Ga → Prop) : Prop where
  run : ∀ B σ F H (Q : Bool → Hp → Prop), Hold X.K B Γ σ F H →
  (∀ b Γ' F' H', P b Γ' → Same F F' → Hold X.K B Γ' σ F' H' → Q b H') → wW X e σ H Q
instance {X : Cx} {e : Expr} {Γ : Ga} {P : Bool → Ga → Prop} : CoeFun (dW X e Γ P) fun _ => (∀ B σ F H (Q : Bool → Hp → Prop), Hold X.K B Γ σ F H →
  (∀ b Γ' F' H', P b Γ' → Same F F' → Hold X.K B Γ' σ F' H' → Q b H') → wW X e σ H Q) := ⟨fun h => h.run⟩
theorem dT_bool (h : dW X e Γ R) : dT X e Γ R := .mk fun B σ F H Q hh hq => t_of (pwW (e := e)).pt (h B σ F H Q hh hq)
theorem dW_and1 (h : dT X a Γ R) : dW X (.BoolOp .And [a] pos) Γ R := .mk fun B σ F H Q hh hq => w_of (pw_and1 ptW) (h B σ F H Q hh hq)
theorem dW_or1 (h : dT X a Γ R) : dW X (.BoolOp .Or [a] pos) Γ R := .mk fun B σ F H Q hh hq => w_of (pw_or1 ptW) (h B σ F H Q hh hq)
theorem dW_and {rest : List Expr} (h : dT X a Γ fun k Γ1 => (k = true → dW X (.BoolOp .And (b :: rest) pos) Γ1 R) ∧ (k = false → R false Γ1)) : dW X (.BoolOp .And (a :: b :: rest) pos) Γ R := by
  refine ⟨?_⟩
  intro B σ F H Q hh hq
  refine w_of (pw_and ptW pwW) (h B σ F H _ hh ?_)
  intro k Γ1 F1 H1 hk s1 h1
  cases k with
  | true => exact iteT (hk.1 rfl B σ F1 H1 Q h1 fun k' Γ2 F2 H2 r s2 => hq k' Γ2 F2 H2 r (s1.trans s2))
  | false => exact iteF (hq false Γ1 F1 H1 (hk.2 rfl) s1 h1)
theorem dW_or {rest : List Expr} (h : dT X a Γ fun k Γ1 => (k = false → dW X (.BoolOp .Or (b :: rest) pos) Γ1 R) ∧ (k = true → R true Γ1)) : dW X (.BoolOp .Or (a :: b :: rest) pos) Γ R := by
  refine ⟨?_⟩
  intro B σ F H Q hh hq
  refine w_of (pw_or ptW pwW) (h B σ F H _ hh ?_)
  intro k Γ1 F1 H1 hk s1 h1
  cases k with
  | false => exact iteF (hk.1 rfl B σ F1 H1 Q h1 fun k' Γ2 F2 H2 r s2 => hq k' Γ2 F2 H2 r (s1.trans s2))
  | true => exact iteT (hq true Γ1 F1 H1 (hk.2 rfl) s1 h1)
/-- and, or, not as values of truths -/
theorem dE_one {op} (h : dE X a Γ P) : dE X (.BoolOp op [a] pos) Γ P := .mk fun B σ F H Q hh hq => e_of (pe_one peW) (h B σ F H Q hh hq)
theorem dE_and {rest : List Expr} (h : dE X a Γ fun x Γ1 => ∃ k, x = .bl k ∧ (k = true → dE X (.BoolOp .And (b :: rest) pos) Γ1 P) ∧ (k = false → P (.bl false) Γ1)) : dE X (.BoolOp .And (a :: b :: rest) pos) Γ P := by
  refine ⟨?_⟩
  intro B σ F H Q hh hq
  refine e_of (pe_and peW peW) (h B σ F H _ hh ?_)
  rintro v x Γ1 F1 H1 ⟨k, rfl, hk⟩ s1 h1 i1
  cases i1
  refine ⟨k, rfl, ?_⟩
  cases k with
  | true => exact iteT (hk.1 rfl B σ F1 H1 Q h1 fun v d Γ2 F2 H2 r s2 => hq v d Γ2 F2 H2 r (s1.trans s2))
  | false => exact iteF (hq _ _ Γ1 F1 H1 (hk.2 rfl) s1 h1 (.bl false))
theorem dE_or {rest : List Expr} (h : dE X a Γ fun x Γ1 => ∃ k, x = .bl k ∧ (k = false → dE X (.BoolOp .Or (b :: rest) pos) Γ1 P) ∧ (k = true → P (.bl true) Γ1)) : dE X (.BoolOp .Or (a :: b :: rest) pos) Γ P := by
  refine ⟨?_⟩
  intro B σ F H Q hh hq
  refine e_of (pe_or peW peW) (h B σ F H _ hh ?_)
  rintro v x Γ1 F1 H1 ⟨k, rfl, hk⟩ s1 h1 i1
  cases i1
  refine ⟨k, rfl, ?_⟩
  cases k with
  | false => exact iteF (hk.1 rfl B σ F1 H1 Q h1 fun v d Γ2 F2 H2 r s2 => hq v d Γ2 F2 H2 r (s1.trans s2))
  | true => exact iteT (hq _ _ Γ1 F1 H1 (hk.2 rfl) s1 h1 (.bl true))
theorem dE_not (h : dE X a Γ fun x Γ1 => ∃ k, x = .bl k ∧ P (.bl (!k)) Γ1) : dE X (.UnaryOp .Not a pos) Γ P := by
  refine ⟨?_⟩
  intro B σ F H Q hh hq
  refine e_of (pe_not peW) (h B σ F H _ hh ?_)
  rintro v x Γ1 F1 H1 ⟨k, rfl, hk⟩ s1 h1 i1
  cases i1
  exact ⟨k, rfl, hq _ _ Γ1 F1 H1 hk s1 h1 (.bl _)⟩
theorem dE_ife (h : dT X c Γ fun k Γ1 => (k = true → dE X a Γ1 P) ∧ (k = false → dE X b Γ1 P)) : dE X (.IfExp c a b pos) Γ P := by
  refine ⟨?_⟩
  intro B σ F H Q hh hq
  refine e_of (pe_ifExp ptW peW peW) (h B σ F H _ hh ?_)
  intro k Γ1 F1 H1 hk s1 h1
  cases k with
  | true => exact iteT (hk.1 rfl B σ F1 H1 Q h1 fun v d Γ2 F2 H2 r s2 => hq v d Γ2 F2 H2 r (s1.trans s2))
  | false => exact iteF (hk.2 rfl B σ F1 H1 Q h1 fun v d Γ2 F2 H2 r s2 => hq v d Γ2 F2 H2 r (s1.trans s2))

/-! ### comparisons -/
theorem dE_cmpI {op : CmpOp} {g : Int → Int → Bool} (ho : OpR X (compareOp op) (rI0 fun i j => .bl (g i j))) (hm : behindInMarks op b = false)
    (h : dE X a Γ fun x Γ1 => dE X b Γ1 fun y Γ2 => I2 (fun i j => P (.bl (g i j)) Γ2) x y) : dE X (.Compare a [op] [b] pos) Γ P :=
  dE_bin (pe_cmpR ho peW peW hm) (dE_mono h fun x Γ1 hb => dE_mono hb fun y Γ2 ⟨i, j, ex, ey, k⟩ => by subst ex ey; exact ⟨_, u2_I0 (g' := fun i j => .bl (g i j)) fun _ _ _ _ => .bl _, fun d e => e ▸ k⟩)
theorem dE_lt (h : dE X a Γ fun x Γ1 => dE X b Γ1 fun y Γ2 => I2 (fun i j => P (.bl (decide (i < j))) Γ2) x y) : dE X (.Compare a [.Lt] [b] pos) Γ P := dE_cmpI op_lt (nomark _) h
theorem dE_le (h : dE X a Γ fun x Γ1 => dE X b Γ1 fun y Γ2 => I2 (fun i j => P (.bl (decide (i ≤ j))) Γ2) x y) : dE X (.Compare a [.LtE] [b] pos) Γ P := dE_cmpI op_le (nomark _) h
theorem dE_gt (h : dE X a Γ fun x Γ1 => dE X b Γ1 fun y Γ2 => I2 (fun i j => P (.bl (decide (j < i))) Γ2) x y) : dE X (.Compare a [.Gt] [b] pos) Γ P := dE_cmpI op_gt (nomark _) h
theorem dE_ge (h : dE X a Γ fun x Γ1 => dE X b Γ1 fun y Γ2 => I2 (fun i j => P (.bl (decide (j ≤ i))) Γ2) x y) : dE X (.Compare a [.GtE] [b] pos) Γ P := dE_cmpI op_ge (nomark _) h
/-- == and != of flat things of one kind, or of None -/
def D.feq : D → D → Option Bool
  | .int i, .int j => some (decide (i = j))
  | .str i, .str j => some (decide (i = j))
  | .bl i, .bl j => some (decide (i = j))
  | .non, .non => some true
  | .non, .int _ => some false | .non, .str _ => some false | .non, .bl _ => some false
  | .int _, .non => some false | .str _, .non => some false | .bl _, .non => some false
  | .int _, .str _ => some false | .str _, .int _ => some false | .bl _, .str _ => some false | .str _, .bl _ => some false
  | _, _ => none
theorem feq_V {K : PySem.W.Frag} {F : Hp} {x y : D} {v u : V} {k : Bool} (h : x.feq y = some k) (iv : Is K F v x) (iu : Is K F u y) : scal v u = true ∧ decide (v = u) = k := by
  cases iv <;> cases iu <;> simp only [D.feq, Option.some.injEq, reduceCtorEq] at h <;> subst h <;> refine ⟨rfl, ?_⟩ <;> simp
theorem dE_eq (h : dE X a Γ fun x Γ1 => dE X b Γ1 fun y Γ2 => ∃ k, x.feq y = some k ∧ P (.bl k) Γ2) : dE X (.Compare a [.Eq] [b] pos) Γ P :=
  dE_bin (pe_cmpR op_eq peW peW (nomark _)) (dE_mono h fun x Γ1 hb => dE_mono hb fun y Γ2 ⟨k, hk, p⟩ => by
    refine ⟨fun d => d = .bl k, ?_, fun d e => e ▸ p⟩
    intro v u F H Q iv iu ex hq
    obtain ⟨h1, h2⟩ := feq_V hk iv iu
    refine ⟨h1, ?_⟩
    rw [h2]
    exact hq _ _ F H rfl (.refl ex) (.bl k))
theorem dE_ne (h : dE X a Γ fun x Γ1 => dE X b Γ1 fun y Γ2 => ∃ k, x.feq y = some k ∧ P (.bl (!k)) Γ2) : dE X (.Compare a [.NotEq] [b] pos) Γ P :=
  dE_bin (pe_cmpR op_ne peW peW (nomark _)) (dE_mono h fun x Γ1 hb => dE_mono hb fun y Γ2 ⟨k, hk, p⟩ => by
    refine ⟨fun d => d = .bl (!k), ?_, fun d e => e ▸ p⟩
    intro v u F H Q iv iu ex hq
    obtain ⟨h1, h2⟩ := feq_V hk iv iu
    refine ⟨h1, ?_⟩
    rw [h2]
    exact hq _ _ F H rfl (.refl ex) (.bl _))
def D.isNon : D → Bool
  | .non => true
  | _ => false
theorem isNon_V {K : PySem.W.Frag} {F : Hp} {x : D} {v : V} (iv : Is K F v x) : decide (v = .non) = x.isNon := by cases iv <;> simp [D.isNon]
theorem dE_isN {j p} (h : dE X a Γ fun x Γ1 => P (.bl x.isNon) Γ1) : dE X (.Compare a [.Is] [.Constant .none j p] pos) Γ P :=
  dE_bin (pe_cmpR op_isN peW peW (nomark _)) (dE_mono h fun x Γ1 hb => dE_non (by
    refine ⟨fun d => d = .bl x.isNon, ?_, fun d e => e ▸ hb⟩
    intro v u F H Q iv iu ex hq
    cases iu
    refine ⟨rfl, ?_⟩
    rw [isNon_V iv]
    exact hq _ _ F H rfl (.refl ex) (.bl _)))
theorem dE_notN {j p} (h : dE X a Γ fun x Γ1 => P (.bl (!x.isNon)) Γ1) : dE X (.Compare a [.IsNot] [.Constant .none j p] pos) Γ P :=
  dE_bin (pe_cmpR op_notN peW peW (nomark _)) (dE_mono h fun x Γ1 hb => dE_non (by
    refine ⟨fun d => d = .bl (!x.isNon), ?_, fun d e => e ▸ hb⟩
    intro v u F H Q iv iu ex hq
    cases iu
    refine ⟨rfl, ?_⟩
    rw [isNon_V iv]
    exact hq _ _ F H rfl (.refl ex) (.bl _)))
theorem dE_notBl (h : dE X a Γ fun x Γ1 => dE X b Γ1 fun y Γ2 => ∃ i j, x = .bl i ∧ y = .bl j ∧ P (.bl (!decide (i = j))) Γ2) : dE X (.Compare a [.IsNot] [b] pos) Γ P :=
  dE_bin (pe_cmpR op_notBl peW peW (nomark _)) (dE_mono h fun x Γ1 hb => dE_mono hb fun y Γ2 ⟨i, j, ex, ey, p⟩ => by
    subst ex ey
    refine ⟨fun d => d = .bl (!decide (i = j)), ?_, fun d e => e ▸ p⟩
    intro v u F H Q iv iu ex hq
    cases iv; cases iu
    exact ⟨i, j, rfl, rfl, hq _ _ F H rfl (.refl ex) (.bl _)⟩)
/-- x op y op' z of ints -/
theorem dE_chain {op op' : CmpOp} {g g' : Int → Int → Bool} (ho : OpR X (compareOp op) (rI0 fun i j => .bl (g i j))) (ho' : OpR X (compareOp op') (rI0 fun i j => .bl (g' i j))) (hm : lastMarks [op, op'] [b, c] = false)
    (h : dE X a Γ fun x Γ1 => dE X b Γ1 fun y Γ2 => I2 (fun i j => (g i j = true → dE X c Γ2 fun z Γ3 => ∃ k, z = .int k ∧ P (.bl (g' j k)) Γ3) ∧ (g i j = false → P (.bl false) Γ2)) x y) :
    dE X (.Compare a [op, op'] [b, c] pos) Γ P := by
  refine ⟨?_⟩
  intro B σ F H Q hh hq
  refine e_of (pe_chain ho ho' peW peW peW hm) (h B σ F H _ hh ?_)
  intro v x Γ1 F1 H1 hb s1 h1 i1
  refine hb B σ F1 H1 _ h1 ?_
  rintro u y Γ2 F2 H2 ⟨i, j, rfl, rfl, k1, k2⟩ s2 h2 i2
  cases i1; cases i2
  refine ⟨i, j, rfl, rfl, g i j, rfl, ?_⟩
  cases hg : g i j with
  | true =>
    refine iteT (k1 hg B σ F2 H2 _ h2 ?_)
    rintro w z Γ3 F3 H3 ⟨k, rfl, p⟩ s3 h3 i3
    cases i3
    exact ⟨j, k, rfl, rfl, hq _ _ Γ3 F3 H3 p ((s1.trans s2).trans s3) h3 (.bl _)⟩
  | false => exact iteF (hq _ _ Γ2 F2 H2 (k2 hg) (s1.trans s2) h2 (.bl false))

/-! ### lists -/
/-- an expression that makes a new list -/
structure dN (X : Cx) (e : Expr) (Γ : Ga) (P : List D → Ga → Prop) : Prop where
  run : ∀ B σ F H (Q : VK), Hold X.K B Γ σ F H →
  (∀ p vs ds Γ' F' H', P ds Γ' → Same F F' → Hold X.K B Γ' σ F' H' → H' p = none → IsL X.K F' vs ds → Q (.ref p) (upd H' p (.lst vs))) → wE X e σ H Q
instance {X : Cx} {e : Expr} {Γ : Ga} {P : List D → Ga → Prop} : CoeFun (dN X e Γ P) fun _ => (∀ B σ F H (Q : VK), Hold X.K B Γ σ F H →
  (∀ p vs ds Γ' F' H', P ds Γ' → Same F F' → Hold X.K B Γ' σ F' H' → H' p = none → IsL X.K F' vs ds → Q (.ref p) (upd H' p (.lst vs))) → wE X e σ H Q) := ⟨fun h => h.run⟩
theorem dE_new (h : dN X e Γ fun ds Γ1 => P (.lst ds) Γ1) : dE X e Γ P := by
  refine ⟨?_⟩
  intro B σ F H Q hh hq
  refine h B σ F H Q hh ?_
  intro p vs ds Γ1 F1 H1 r s1 h1 hp i1
  have st : Stp F1 H1 (upd F1 p (.lst vs)) (upd H1 p (.lst vs)) := .new h1.ex hp
  exact hq _ _ Γ1 _ _ r (s1.trans st.f) (h1.stp st) (.lst upd_same (i1.up (Up.of st.f)))
variable {PN : List D → Ga → Prop}
theorem sz {n : Nat} (h : n ≤ 1000000) : n ≤ sizeLine := by rw [sizeLine_eq]; omega
theorem dN_lst (h : dA X es Γ fun as Γ1 => ∃ ds, as = ds.map Ar.d ∧ ds.length ≤ 1000000 ∧ PN ds Γ1) : dN X (.List es pos) Γ PN := by
  refine ⟨?_⟩
  intro B σ F H Q hh hq
  refine e_of (pe_lst paW) (h B σ F H _ hh ?_)
  rintro vs as Γ1 F1 H1 ⟨ds, rfl, hl, p⟩ s1 h1 i1
  have il := i1.isL
  exact ⟨by rw [il.length]; exact sz hl, fun q hp => hq q vs ds Γ1 F1 H1 p s1 h1 hp il⟩
theorem dE_tup {kk : Nat} (h : dA X es Γ fun as Γ1 => ∃ ds, as = ds.map Ar.d ∧ ds.length ≤ 1000000 ∧ P (.tup ds) Γ1) : dE X (.Tuple es kk pos) Γ P := by
  refine ⟨?_⟩
  intro B σ F H Q hh hq
  refine e_of (pe_tup paW) (h B σ F H _ hh ?_)
  rintro vs as Γ1 F1 H1 ⟨ds, rfl, hl, p⟩ s1 h1 i1
  have il := i1.isL
  refine ⟨by rw [il.length]; exact sz hl, fun q hp => ?_⟩
  have st : Stp F1 H1 (upd F1 q (.tup vs)) (upd H1 q (.tup vs)) := .new h1.ex hp
  exact hq _ _ Γ1 _ _ p (s1.trans st.f) (h1.stp st) (.tup (SqT.of upd_same) (il.up (Up.of st.f)))
theorem dN_cat (h : dE X a Γ fun x Γ1 => dE X b Γ1 fun y Γ2 => ∃ xs ys, x = .lst xs ∧ y = .lst ys ∧ xs.length + ys.length ≤ 1000000 ∧ PN (xs ++ ys) Γ2) : dN X (.BinOp a .Add b pos) Γ PN := by
  refine ⟨?_⟩
  intro B σ F H Q hh hq
  refine e_of (pe_op op_cat peW peW) (h B σ F H _ hh ?_)
  intro v x Γ1 F1 H1 hb s1 h1 i1
  refine hb B σ F1 H1 _ h1 ?_
  rintro u y Γ2 F2 H2 ⟨xs, ys, rfl, rfl, hl, p⟩ s2 h2 i2
  cases i1 with
  | lst e1 l1 => cases i2 with
    | lst e2 l2 =>
      have l1' := l1.up (Up.of s2)
      exact ⟨_, _, _, _, rfl, rfl, h2.ex _ _ (s2 _ _ e1), h2.ex _ _ e2, by rw [l1.length, l2.length]; exact sz hl, fun q hp => hq q _ _ Γ2 F2 H2 p (s1.trans s2) h2 hp (l1'.append l2)⟩
/-! ### items -/
theorem atI_D {K : PySem.W.Frag} {F : Hp} {vs : List V} {ds : List D} {i : Int} {d : D} (h : IsL K F vs ds) (e : atI ds i = some d) : ∃ v, atI vs i = some v ∧ Is K F v d := by
  unfold atI at e ⊢
  rw [h.length]
  cases z : ixN ds.length i with
  | none => rw [z] at e; cases e
  | some j =>
    rw [z] at e
    exact h.get (i := j) e
theorem Is.sql {K : PySem.W.Frag} {F H : Hp} {v : V} {ds : List D} (h : Is K F v (.lst ds)) (ex : Same F H) : ∃ a vs, v = .ref a ∧ SqL K H a vs ∧ IsL K F vs ds := by
  cases h with
  | lst e l => exact ⟨_, _, rfl, SqL.of (ex _ _ e), l⟩
theorem Is.sqf {K : PySem.W.Frag} {F H : Hp} {v : V} {ds : List D} (h : Is K F v (.fls ds)) (ex : Same F H) : ∃ a vs, v = .ref a ∧ SqL K H a vs ∧ IsL K F vs ds := by
  cases h with
  | fls e l => exact ⟨_, _, rfl, sql_up (Up.of ex) e, l⟩
theorem Is.sqt {K : PySem.W.Frag} {F H : Hp} {v : V} {ds : List D} (h : Is K F v (.tup ds)) (ex : Same F H) : ∃ a vs, v = .ref a ∧ SqT K H a vs ∧ IsL K F vs ds := by
  cases h with
  | tup e l => exact ⟨_, _, rfl, sqt_up (Up.of ex) e, l⟩
/-- a list, the script, a tuple -/
def D.items : D → Option (List D)
  | .lst xs => some xs
  | .fls xs => some xs
  | .tup xs => some xs
  | _ => none
theorem dE_ix (h : dE X a Γ fun x Γ1 => dE X b Γ1 fun y Γ2 => ∃ xs i d, x.items = some xs ∧ y = .int i ∧ atI xs i = some d ∧ P d Γ2) (hp : PlainIx b := by exact fun _ _ => rfl) : dE X (.Subscript a b pos) Γ P :=
  dE_bin (pe_ix ix_seq peW peW hp) (dE_mono h fun x Γ1 hb => dE_mono hb fun y Γ2 ⟨xs, i, d, hx, ey, hd, p⟩ => by
    subst ey
    refine ⟨fun z => z = d, ?_, fun z e => e ▸ p⟩
    intro v u F H Q iv iu ex hq
    cases iu
    cases x with
    | lst ys =>
      cases hx
      obtain ⟨q, vs, rfl, hs, l⟩ := iv.sql ex
      obtain ⟨w, e1, e2⟩ := atI_D l hd
      exact .inl ⟨q, vs, i, w, rfl, rfl, hs, e1, hq _ _ F H rfl (.refl ex) e2⟩
    | fls ys =>
      cases hx
      obtain ⟨q, vs, rfl, hs, l⟩ := iv.sqf ex
      obtain ⟨w, e1, e2⟩ := atI_D l hd
      exact .inl ⟨q, vs, i, w, rfl, rfl, hs, e1, hq _ _ F H rfl (.refl ex) e2⟩
    | tup ys =>
      cases hx
      obtain ⟨q, vs, rfl, hs, l⟩ := iv.sqt ex
      obtain ⟨w, e1, e2⟩ := atI_D l hd
      exact .inr (.inl ⟨q, vs, i, w, rfl, rfl, hs, e1, hq _ _ F H rfl (.refl ex) e2⟩)
    | _ => cases hx)
theorem dE_ixS (h : dE X a Γ fun x Γ1 => dE X b Γ1 fun y Γ2 => ∃ z i k, x = .str z ∧ y = .int i ∧ z.length ≤ 1000000 ∧ atI z.cps.toList i = some k ∧ P (.str ⟨#[k]⟩) Γ2) (hp : PlainIx b := by exact fun _ _ => rfl) : dE X (.Subscript a b pos) Γ P :=
  dE_bin (pe_ix ix_str peW peW hp) (dE_mono h fun x Γ1 hb => dE_mono hb fun y Γ2 ⟨z, i, k, ex, ey, hl, hd, p⟩ => by
    subst ex ey
    refine ⟨fun w => w = .str ⟨#[k]⟩, ?_, fun z e => e ▸ p⟩
    intro v u F H Q iv iu ex hq
    cases iv; cases iu
    exact ⟨z, i, k, rfl, rfl, sz hl, hd, hq _ _ F H rfl (.refl ex) (.str _)⟩)
/-- an item of the list that slot i alone holds -/
theorem dE_ixO {x : Str} {p : Pos} {i : Nat} (h : dE X b Γ fun y Γ1 => ∃ v ds j d, Γ1[i]? = some (.ow v (oL ds)) ∧ y = .int j ∧ atI ds j = some d ∧ P d Γ1) (hp : PlainIx b := by exact fun _ _ => rfl) (hN : X.N[i]? = some x := by rfl)
    (hv : Vis X.env.scope x := by first | exact Or.inl rfl | exact Or.inr (Or.inl rfl) | exact Or.inr (Or.inr rfl)) (hd : (x == ("__debug__" : Str)) = false := by decide)
    (hcd : (x == ("__classdict__" : Str)) = false := by decide) (w : V) (o : O) (hi : Γ[i]? = some (.ow w o)) : dE X (.Subscript (.Name x p) b pos) Γ P := by
  refine ⟨?_⟩
  intro B σ F H Q hh hq
  obtain ⟨fp, S⟩ := hh.sl
  obtain ⟨y, e1, e2⟩ := S.r i _ hi
  have ey : y = some w := by
    generalize fp i = as at e2
    cases e2; rfl
  subst ey
  refine e_of (pe_ix ix_list (pe_var hN hv hd hcd) peW hp) ⟨w, e1, h B σ F H _ hh ?_⟩
  rintro u z Γ1 F1 H1 ⟨v, ds, j, d, g1, rfl, hat, pp⟩ s1 h1 i1
  cases i1
  obtain ⟨q, vs, rfl, es, hq', l, _⟩ := h1.getL g1
  rw [e1] at es
  cases es
  obtain ⟨r, e3, e4⟩ := atI_D l hat
  exact ⟨q, vs, j, r, rfl, rfl, SqL.of hq', e3, hq _ _ Γ1 F1 H1 pp s1 h1 e4⟩
/-! ### slices -/
def cutD (xs : List D) (lo hi : Option Int) : List D := (xs.drop (HT.sIx xs.length 0 lo)).take (HT.sIx xs.length xs.length hi - HT.sIx xs.length 0 lo)
theorem cut_D {K : PySem.W.Frag} {F : Hp} {vs : List V} {ds : List D} (h : IsL K F vs ds) (lo hi : Option Int) : IsL K F (cutV vs lo hi) (cutD ds lo hi) := by
  unfold cutV cutD
  rw [h.length]
  exact (h.drop _).take _
/-- a slice's bound -/
def dO (X : Cx) : Option Expr → Ga → (Option Int → Ga → Prop) → Prop
  | none, Γ, P => P none Γ
  | some e, Γ, P => dE X e Γ fun d Γ1 => ∃ i, d = .int i ∧ P (some i) Γ1
def tOo (X : Cx) : Option Expr → TO
  | none => tNoPart
  | some e => tPart (wE X e)
theorem poW {o : Option Expr} : PO X o (tOo X o) := by
  cases o with
  | none => exact po_none
  | some e => exact po_some peW
theorem dO_run {o : Option Expr} {PO' : Option Int → Ga → Prop} {B : Bs} {σ : St} {F H : Hp} {Q : Option Int → Hp → Prop} (h : dO X o Γ PO') (hh : Hold X.K B Γ σ F H)
    (hq : ∀ i Γ' F' H', PO' i Γ' → Same F F' → Hold X.K B Γ' σ F' H' → Q i H') : tOo X o σ H Q := by
  cases o with
  | none => exact hq none Γ F H h (.refl F) hh
  | some e =>
    refine dE.run h B σ F H _ hh ?_
    rintro v d Γ1 F1 H1 ⟨i, rfl, p⟩ s1 h1 i1
    cases i1
    exact ⟨i, rfl, hq _ Γ1 F1 H1 p s1 h1⟩
theorem dN_slice {lo hi : Option Expr} {p2 : Pos} (h : dE X a Γ fun x Γ1 => dO X lo Γ1 fun l Γ2 => dO X hi Γ2 fun u Γ3 => ∃ xs, (x = .lst xs ∨ x = .fls xs) ∧ PN (cutD xs l u) Γ3) : dN X (.Subscript a (.Slice lo hi none p2) pos) Γ PN := by
  refine ⟨?_⟩
  intro B σ F H Q hh hq
  refine e_of (pe_slice sl_list peW poW poW) (h B σ F H _ hh ?_)
  intro v x Γ1 F1 H1 hb s1 h1 i1
  refine dO_run hb h1 ?_
  intro l Γ2 F2 H2 hc s2 h2
  refine dO_run hc h2 ?_
  rintro u Γ3 F3 H3 ⟨xs, hx, p⟩ s3 h3
  have i3 := i1.up (Up.of (s2.trans s3))
  obtain ⟨q, vs, rfl, hs, il⟩ : ∃ q vs, v = .ref q ∧ SqL X.K H3 q vs ∧ IsL X.K F3 vs xs := by
    rcases hx with rfl | rfl
    · exact i3.sql h3.ex
    · exact i3.sqf h3.ex
  exact ⟨q, vs, rfl, hs, fun r hr => hq r _ _ Γ3 F3 H3 p ((s1.trans s2).trans s3) h3 hr (cut_D il l u)⟩
theorem dE_sliceS {lo hi : Option Expr} {p2 : Pos} (h : dE X a Γ fun x Γ1 => dO X lo Γ1 fun l Γ2 => dO X hi Γ2 fun u Γ3 => ∃ z, x = .str z ∧ z.length ≤ 1000000 ∧ P (.str (cutS z l u)) Γ3) : dE X (.Subscript a (.Slice lo hi none p2) pos) Γ P := by
  refine ⟨?_⟩
  intro B σ F H Q hh hq
  refine e_of (pe_slice sl_str peW poW poW) (h B σ F H _ hh ?_)
  intro v x Γ1 F1 H1 hb s1 h1 i1
  refine dO_run hb h1 ?_
  intro l Γ2 F2 H2 hc s2 h2
  refine dO_run hc h2 ?_
  rintro u Γ3 F3 H3 ⟨z, rfl, hl, p⟩ s3 h3
  cases i1
  exact ⟨z, rfl, sz hl, hq _ _ Γ3 F3 H3 p ((s1.trans s2).trans s3) h3 (.str _)⟩
/-- xs[::-1] -/
theorem dN_rev {k : Nat} {p1 p2 p3 : Pos} (h : dE X a Γ fun x Γ1 => ∃ xs, x = .lst xs ∧ PN xs.reverse Γ1) : dN X (.Subscript a (.Slice none none (some (.UnaryOp .USub (.Constant (.int 1) k p1) p2)) p3) pos) Γ PN := by
  refine ⟨?_⟩
  intro B σ F H Q hh hq
  refine e_of (pe_revL peW) (h B σ F H _ hh ?_)
  rintro v x Γ1 F1 H1 ⟨xs, rfl, p⟩ s1 h1 i1
  obtain ⟨q, vs, rfl, hs, il⟩ := i1.sql h1.ex
  exact ⟨q, vs, rfl, hs, fun r hr => hq r _ _ Γ1 F1 H1 p s1 h1 hr il.reverse⟩
/-! ### in -/
theorem inV_strs (s : Str) : ∀ ss : List Str, inV (.str s) (ss.map V.str) = decide (s ∈ ss)
  | [] => by simp [inV]
  | t :: ss => by
    have ih := inV_strs s ss
    unfold inV at ih ⊢
    rw [List.map_cons, List.any_cons, ih]
    by_cases h : s = t
    · subst h; simp [eqV]
    · have : ¬ t = s := fun z => h z.symm
      simp [eqV, h, this]
theorem flat_strs (ss : List Str) : (ss.map V.str).all flatV = true := by
  rw [List.all_eq_true]
  intro v hv
  obtain ⟨s, _, rfl⟩ := List.mem_map.mp hv
  rfl
/-- text in list or tuple of texts -/
theorem dE_inS (h : dE X a Γ fun x Γ1 => dE X b Γ1 fun y Γ2 => ∃ (s : Str) (ss : List Str), x = .str s ∧ y.items = some (ss.map D.str) ∧ P (.bl (decide (s ∈ ss))) Γ2) (hm : behindInMarks .In b = false := by rfl) : dE X (.Compare a [.In] [b] pos) Γ P :=
  dE_bin (pe_cmpR op_in_seq peW peW hm) (dE_mono h fun x Γ1 hb => dE_mono hb fun y Γ2 ⟨s, ss, ex, hy, p⟩ => by
    subst ex
    refine ⟨fun w => w = .bl (decide (s ∈ ss)), ?_, fun z e => e ▸ p⟩
    intro v u F H Q iv iu ex hq
    cases iv
    have fin : Q (.bl (inV (.str s) (ss.map V.str))) H := by rw [inV_strs]; exact hq _ _ F H rfl (.refl ex) (.bl _)
    cases y with
    | lst ys =>
      cases hy
      obtain ⟨q, vs, rfl, hs, l⟩ := iu.sql ex
      cases l.strs
      exact ⟨q, _, rfl, .inl hs, rfl, flat_strs ss, fin⟩
    | fls ys =>
      cases hy
      obtain ⟨q, vs, rfl, hs, l⟩ := iu.sqf ex
      cases l.strs
      exact ⟨q, _, rfl, .inl hs, rfl, flat_strs ss, fin⟩
    | tup ys =>
      cases hy
      obtain ⟨q, vs, rfl, hs, l⟩ := iu.sqt ex
      cases l.strs
      exact ⟨q, _, rfl, .inr hs, rfl, flat_strs ss, fin⟩
    | _ => cases hy)
/-- text not in the list that slot i alone holds -/
theorem dE_notInO {x : Str} {p : Pos} {i : Nat} (h : dE X a Γ fun y Γ1 => ∃ (v : V) (ss : List Str) (s : Str), Γ1[i]? = some (.ow v (oL (ss.map D.str))) ∧ y = .str s ∧ P (.bl (!decide (s ∈ ss))) Γ1) (hm : behindInMarks .NotIn (.Name x p) = false := by rfl) (hN : X.N[i]? = some x := by rfl)
    (hv : Vis X.env.scope x := by first | exact Or.inl rfl | exact Or.inr (Or.inl rfl) | exact Or.inr (Or.inr rfl)) (hd : (x == ("__debug__" : Str)) = false := by decide)
    (hcd : (x == ("__classdict__" : Str)) = false := by decide) : dE X (.Compare a [.NotIn] [.Name x p] pos) Γ P := by
  refine ⟨?_⟩
  intro B σ F H Q hh hq
  refine e_of (pe_cmpR op_notIn_seq peW (pe_var hN hv hd hcd) hm) (h B σ F H _ hh ?_)
  rintro u z Γ1 F1 H1 ⟨v, ss, s, g1, rfl, pp⟩ s1 h1 i1
  cases i1
  obtain ⟨q, vs, rfl, es, hq', l, _⟩ := h1.getL g1
  cases l.strs
  refine ⟨_, es, q, _, rfl, .inl (SqL.of hq'), rfl, flat_strs ss, ?_⟩
  show Q (.bl (!inV (.str s) (ss.map V.str))) H1
  rw [inV_strs]
  exact hq _ _ Γ1 F1 H1 pp s1 h1 (.bl _)
/-- one sign in a text -/
theorem dE_inC (h : dE X a Γ fun x Γ1 => dE X b Γ1 fun y Γ2 => ∃ (k : Nat) (z : Str), x = .str ⟨#[k]⟩ ∧ y = .str z ∧ P (.bl (decide (k ∈ z.cps.toList))) Γ2) (hm : behindInMarks .In b = false := by rfl) : dE X (.Compare a [.In] [b] pos) Γ P :=
  dE_bin (pe_cmpR op_in_sign peW peW hm) (dE_mono h fun x Γ1 hb => dE_mono hb fun y Γ2 ⟨k, z, ex, ey, p⟩ => by
    subst ex ey
    refine ⟨fun w => w = .bl (decide (k ∈ z.cps.toList)), ?_, fun z e => e ▸ p⟩
    intro v u F H Q iv iu ex hq
    cases iv; cases iu
    exact ⟨k, z, rfl, rfl, hq _ _ F H rfl (.refl ex) (.bl _)⟩)
/-! ### dicts -/
def look (kvs : List (Key × D)) (k : Key) : Option D := (kvs.find? fun q => decide (q.1 = k)).map (·.2)
theorem look_V {K : PySem.W.Frag} {F : Hp} : ∀ {vs : List (Key × V)} {ds : List (Key × D)}, IsK K F vs ds → ∀ k : Key, match look ds k with
    | none => valV vs k = none
    | some d => ∃ v, valV vs k = some v ∧ Is K F v d
  | _, _, .nil, k => by simp [look, valV]
  | _, _, .cons (k := k') (v := v) (d := d) a b, k => by
    have ih := look_V b k
    unfold look valV at ih ⊢
    by_cases h : k' = k
    · subst h
      simp only [List.find?_cons, decide_true]
      exact ⟨v, rfl, a⟩
    · simp only [List.find?_cons, h, decide_false]
      exact ih
def kD : Key → D
  | .inl i => .int i
  | .inr s => .str s
theorem kD_V {K : PySem.W.Frag} {F : Hp} {v : V} {k : Key} (h : Is K F v (kD k)) : v = kV k := by
  cases k <;> cases h <;> rfl
theorem Is.dk {K : PySem.W.Frag} {F H : Hp} {v : V} {ds : List (Key × D)} (h : Is K F v (.dct ds)) (ex : Same F H) : ∃ a vs, v = .ref a ∧ Rd H a (.dK vs) ∧ IsK K F vs ds := by
  cases h with
  | dct e l => exact ⟨_, _, rfl, (Up.of ex).rd _ _ trivial e, l⟩
theorem dE_ixD (hu : X.A.units + 1 < cLine) (h : dE X a Γ fun x Γ1 => dE X b Γ1 fun y Γ2 => ∃ kvs k d, x = .dct kvs ∧ y = kD k ∧ look kvs k = some d ∧ P d Γ2) (hp : NoSl b := by exact fun _ _ => rfl) : dE X (.Subscript a b pos) Γ P := by
  refine ⟨?_⟩
  intro B σ F H Q hh hq
  refine e_of (pe_dget hu peW peW hp) (h B σ F H _ hh ?_)
  intro v x Γ1 F1 H1 hb s1 h1 i1
  refine hb B σ F1 H1 _ h1 ?_
  rintro u y Γ2 F2 H2 ⟨kvs, k, d, rfl, rfl, hl, p⟩ s2 h2 i2
  obtain ⟨q, vs, rfl, hs, il⟩ := (i1.up (Up.of s2)).dk h2.ex
  have z := look_V il k
  rw [hl] at z
  obtain ⟨w, e1, e2⟩ := z
  exact ⟨q, w, rfl, .inl ⟨vs, k, hs, kD_V i2, e1.symm⟩, hq _ _ Γ2 F2 H2 p (s1.trans s2) h2 e2⟩
theorem dE_inD (hu : X.A.units + 1 < cLine) (h : dE X a Γ fun x Γ1 => dE X b Γ1 fun y Γ2 => ∃ kvs k, x = kD k ∧ y = .dct kvs ∧ P (.bl (look kvs k).isSome) Γ2) (hm : behindInMarks .In b = false := by rfl) : dE X (.Compare a [.In] [b] pos) Γ P := by
  refine ⟨?_⟩
  intro B σ F H Q hh hq
  refine e_of (pe_cmp (pc_din hu peW peW) hm) (h B σ F H _ hh ?_)
  intro v x Γ1 F1 H1 hb s1 h1 i1
  refine hb B σ F1 H1 _ h1 ?_
  rintro u y Γ2 F2 H2 ⟨kvs, k, rfl, rfl, p⟩ s2 h2 i2
  obtain ⟨q, vs, rfl, hs, il⟩ := i2.dk h2.ex
  have z := look_V il k
  have e : (valV vs k).isSome = (look kvs k).isSome := by
    cases w : look kvs k with
    | none => rw [w] at z; rw [z]; rfl
    | some d => rw [w] at z; obtain ⟨v, e1, _⟩ := z; rw [e1]; rfl
  refine ⟨q, valV vs k, rfl, .inl ⟨vs, k, hs, kD_V i1, rfl⟩, ?_⟩
  rw [e]
  exact hq _ _ Γ2 F2 H2 p (s1.trans s2) h2 (.bl _)
theorem dE_notInD (hu : X.A.units + 1 < cLine) (h : dE X a Γ fun x Γ1 => dE X b Γ1 fun y Γ2 => ∃ kvs k, x = kD k ∧ y = .dct kvs ∧ P (.bl (!(look kvs k).isSome)) Γ2) (hm : behindInMarks .NotIn b = false := by rfl) : dE X (.Compare a [.NotIn] [b] pos) Γ P := by
  refine ⟨?_⟩
  intro B σ F H Q hh hq
  refine e_of (pe_cmp (pc_dnotin hu peW peW) hm) (h B σ F H _ hh ?_)
  intro v x Γ1 F1 H1 hb s1 h1 i1
  refine hb B σ F1 H1 _ h1 ?_
  rintro u y Γ2 F2 H2 ⟨kvs, k, rfl, rfl, p⟩ s2 h2 i2
  obtain ⟨q, vs, rfl, hs, il⟩ := i2.dk h2.ex
  have z := look_V il k
  have e : (valV vs k).isSome = (look kvs k).isSome := by
    cases w : look kvs k with
    | none => rw [w] at z; rw [z]; rfl
    | some d => rw [w] at z; obtain ⟨v, e1, _⟩ := z; rw [e1]; rfl
  refine ⟨q, valV vs k, rfl, .inl ⟨vs, k, hs, kD_V i1, rfl⟩, ?_⟩
  rw [e]
  exact hq _ _ Γ2 F2 H2 p (s1.trans s2) h2 (.bl _)
end
end Nd
/-! Part 4: statements, targets, loops, comprehensions. -/
namespace Nd
open PySem PySem.Spec L2
open PyProof.Rows hiding St
variable [Tb]

section
variable {X : Cx} {a b c e : Expr} {es : List Expr} {pos : Pos} {Γ : Ga} {P : Ou} {R : D → Ga → Prop} {PN : List D → Ga → Prop}

/-! ### blocks -/
theorem dSs_nil (k : P.nx Γ) : dSs X [] Γ P := .mk fun B σ F H E hh hq => ss_of pss_nil (hq.nx σ Γ F H k (.refl F) hh)
theorem dSs_cons {st : Stmt} {rest : List Stmt} (h : dS X st Γ { P with nx := fun Γ1 => dSs X rest Γ1 P }) : dSs X (st :: rest) Γ P := by
  refine ⟨?_⟩
  intro B σ F H E hh hq
  refine ss_of (pss_cons psW pssW) (h B σ F H _ hh ⟨fun σ1 Γ1 F1 H1 r s1 h1 => ?_, hq.rt, hq.bk, hq.ct, hq.rn⟩)
  exact r B σ1 F1 H1 E h1 (hq.up s1)
theorem dS_pass {p : Pos} (k : P.nx Γ) : dS X (.Pass p) Γ P := .mk fun B σ F H E hh hq => s_of ps_pass (hq.nx σ Γ F H k (.refl F) hh)
theorem dS_expr (h : dE X e Γ fun _ Γ1 => P.nx Γ1) (hs : swapsWith e none pos.line X.env = pure false := by rfl) : dS X (.Expr e pos) Γ P := .mk fun B σ F H E hh hq =>
  s_of (ps_expr peW hs) (h B σ F H _ hh fun v d Γ1 F1 H1 r s1 h1 _ => hq.nx σ Γ1 F1 H1 r s1 h1)
theorem dS_ret (h : dE X e Γ P.rt) : dS X (.Return (some e) pos) Γ P := .mk fun B σ F H E hh hq =>
  s_of (ps_ret peW) (h B σ F H _ hh fun v d Γ1 F1 H1 r s1 h1 i => hq.rt v d σ Γ1 F1 H1 r s1 h1 i)
theorem dS_retN (h : dN X e Γ P.rn) : dS X (.Return (some e) pos) Γ P := .mk fun B σ F H E hh hq =>
  s_of (ps_ret peW) (h B σ F H _ hh fun p vs ds Γ1 F1 H1 r s1 h1 n i => hq.rn p vs ds σ Γ1 F1 H1 r s1 h1 n i)
theorem dS_if {t f : List Stmt} (h : dT X c Γ fun k Γ1 => (k = true → dSs X t Γ1 P) ∧ (k = false → dSs X f Γ1 P)) : dS X (.If c t f pos) Γ P := by
  refine ⟨?_⟩
  intro B σ F H E hh hq
  refine s_of (ps_if ptW pssW pssW) (h B σ F H _ hh ?_)
  intro k Γ1 F1 H1 hk s1 h1
  cases k with
  | true => exact iteT (hk.1 rfl B σ F1 H1 E h1 (hq.up s1))
  | false => exact iteF (hk.2 rfl B σ F1 H1 E h1 (hq.up s1))
theorem dS_break {p : Pos} (k : P.bk Γ) : dS X (.Break p) Γ P := .mk fun B σ F H E hh hq => s_of ps_break (hq.bk σ Γ F H k (.refl F) hh)
theorem dS_continue {p : Pos} (k : P.ct Γ) : dS X (.Continue p) Γ P := .mk fun B σ F H E hh hq => s_of ps_continue (hq.ct σ Γ F H k (.refl F) hh)

/-! ### assignments -/
theorem dS_set {i : Nat} {x : Str} {pos' : Pos} (hN : X.N.Nodup) (h : dE X e Γ fun d Γ1 => P.nx (Γ1.set i (.im d))) (hi : X.N[i]? = some x := by rfl) (hx : Loc X.env.scope x := by first | exact Or.inl rfl | exact Or.inr rfl)
    (hs : swapsWith e (some (.Name x pos')) pos.line X.env = pure false := by rfl) (hf : X.fn x = true ∨ X.env.scope.names.lookup x = some .local := by first | exact .inl rfl | exact .inr rfl) : dS X (.Assign [.Name x pos'] e pos) Γ P :=
  .mk fun B σ F H E hh hq => s_of (ps_set hN hi hx peW hs hf) (h B σ F H _ hh fun v d Γ1 F1 H1 r s1 h1 i1 => hq.nx _ _ F1 H1 r s1 (h1.set i1))
/-- a new list that the name alone holds -/
theorem dS_setO {i : Nat} {x : Str} {pos' : Pos} (hN : X.N.Nodup) (h : dN X e Γ fun ds Γ1 => ∀ p, P.nx (Γ1.set i (.ow (.ref p) (oL ds)))) (hi : X.N[i]? = some x := by rfl) (hx : Loc X.env.scope x := by first | exact Or.inl rfl | exact Or.inr rfl)
    (hs : swapsWith e (some (.Name x pos')) pos.line X.env = pure false := by rfl) (hf : X.fn x = true ∨ X.env.scope.names.lookup x = some .local := by first | exact .inl rfl | exact .inr rfl) : dS X (.Assign [.Name x pos'] e pos) Γ P :=
  .mk fun B σ F H E hh hq => s_of (ps_set hN hi hx peW hs hf) (h B σ F H _ hh fun p vs ds Γ1 F1 H1 r s1 h1 hp il => hq.nx _ _ F1 _ (r p) s1 (h1.newL hp il))
/-- xs.append(e), xs held by its name alone -/
theorem dS_append {x : Str} {i : Nat} {p ap cp : Pos} {w : V} {o : List O} (hi : Γ[i]? = some (.ow w (.lst o))) (h : dE X e Γ fun d Γ1 => ∃ ds, Γ1[i]? = some (.ow w (oL ds)) ∧ ds.length < 1000000 ∧ P.nx (Γ1.set i (.ow w (oL (ds ++ [d])))))
    (hN : X.N[i]? = some x := by rfl) (hv : Vis X.env.scope x := by first | exact Or.inl rfl | exact Or.inr (Or.inl rfl) | exact Or.inr (Or.inr rfl)) (hd : (x == ("__debug__" : Str)) = false := by decide)
    (hcd : (x == ("__classdict__" : Str)) = false := by decide) (he : starEach [e] X.env = [(false, eval e X.env)] := by rfl)
    (hbase : attributeBase (.Name x p) "append" X.env (eval (.Name x p) X.env) = eval (.Name x p) X.env := by rfl)
    (hfew : ((backTo cp (starEach [e] X.env)).all (fun x => !x.1) && (backToKw cp (keywordEach [] X.env)).all (fun x => x.1.isSome)
      && decide ([e].length + ([] : List Keyword).length + (if ([] : List Keyword).isEmpty then 0 else 1) < 30)) = true := by rfl)
    (hline : (ap.endLine == cp.line) = true := by rfl)
    (hs : swapsWith (.Call (.Attribute (.Name x p) "append" ap) [e] [] cp) none pos.line X.env = pure false := by rfl) :
    dS X (.Expr (.Call (.Attribute (.Name x p) "append" ap) [e] [] cp) pos) Γ P := by
  refine ⟨?_⟩
  intro B σ F H E hh hq
  obtain ⟨q0, vs0, rfl, e1, e2⟩ := hh.getO hi
  refine s_of (ps_expr (pe_bm PySem.F.plainAttrs_list PySem.F.slot_list_append PySem.F.type_list_append mt_append (pe_var hN hv hd hcd) (pa_cons peW pa_nil he) hbase hfew hline he) hs) ?_
  refine ⟨_, e1, .inl ⟨rfl, _, SqL.of e2⟩, h B σ F H _ hh ?_⟩
  rintro v d Γ1 F1 H1 ⟨ds, g, hl, r⟩ s1 h1 i1
  obtain ⟨q, vs, z, es, hq', il, n1, n3⟩ := h1.getL g
  cases z
  refine ⟨q0, vs, v, rfl, rfl, hq', by rw [il.length]; rw [sizeLine_eq]; omega, ?_⟩
  exact hq.nx _ _ F1 _ r s1 (h1.mutL g es hq' (il.append (.cons i1 .nil)))
/-- xs[j] = e, xs held by its name alone -/
theorem dS_item {x : Str} {i : Nat} {p sp : Pos} {w : V} {o : List O} (hi : Γ[i]? = some (.ow w (.lst o)))
    (h : dE X e Γ fun d Γ1 => dE X b Γ1 fun y Γ2 => ∃ ds j k, Γ2[i]? = some (.ow w (oL ds)) ∧ y = .int j ∧ ixN ds.length j = some k ∧ P.nx (Γ2.set i (.ow w (oL (ds.set k d)))))
    (hN : X.N[i]? = some x := by rfl) (hv : Vis X.env.scope x := by first | exact Or.inl rfl | exact Or.inr (Or.inl rfl) | exact Or.inr (Or.inr rfl)) (hd : (x == ("__debug__" : Str)) = false := by decide)
    (hcd : (x == ("__classdict__" : Str)) = false := by decide)
    (ha : ∀ v, assign (.Subscript (.Name x p) b sp) X.env v = (do
      let ov ← holding [v] (eval (.Name x p) X.env)
      let iv ← holding [v, ov] (eval b X.env)
      standAt sp
      holding [v, ov, iv] (setItem ov iv v)
      release [v, ov, iv] []) := by intro _; rfl)
    (hs : swapsWithSole [.Subscript (.Name x p) b sp] e pos.line X.env = pure false := by rfl) (hw : swappedStores [.Subscript (.Name x p) b sp] e X.env = pure none := by rfl)
    (h1' : (assignEach [.Subscript (.Name x p) b sp] X.env).map (·.2) = [assign (.Subscript (.Name x p) b sp) X.env] := by rfl) : dS X (.Assign [.Subscript (.Name x p) b sp] e pos) Γ P := by
  refine ⟨?_⟩
  intro B σ F H E hh hq
  obtain ⟨q0, vs0, rfl, e1, e2⟩ := hh.getO hi
  refine s_of (ps_asg peW (pg_sub (pe_var hN hv hd hcd) peW set_list ha) hs hw h1') (h B σ F H _ hh ?_)
  intro v d Γ1 F1 H1 hb s1 h1 i1
  refine ⟨_, e1, hb B σ F1 H1 _ h1 ?_⟩
  rintro u y Γ2 F2 H2 ⟨ds, j, k, g, rfl, hk, r⟩ s2 h2 i2
  cases i2
  obtain ⟨q, vs, z, es, hq', il, n1, n3⟩ := h2.getL g
  cases z
  refine ⟨q0, vs, j, k, rfl, rfl, hq', by rw [il.length]; exact hk, ?_⟩
  exact hq.nx _ _ F2 _ r (s1.trans s2) (h2.mutL g es hq' (il.set k (i1.up (Up.of s2))))

/-! ### targets -/
def wG (X : Cx) (tg : Expr) : TG := fun v σ H Q => ∀ pins s u, Inv X pins σ H s → RelV v u → wpAny (model X.prog X.w) X.A (assign tg X.env u) (fun _ s' => ∃ σ' H', Inv X pins σ' H' s' ∧ Q σ' H') X.xe s
def wGs (X : Cx) (ts : List Expr) : TGs := fun vs σ H Q => ∀ pins s us, Inv X pins σ H s → Vals vs us → wpAny (model X.prog X.w) X.A (assignInOrder ((assignEach ts X.env).map (·.2)) us) (fun _ s' => ∃ σ' H', Inv X pins σ' H' s' ∧ Q σ' H') X.xe s
theorem pgW {tg : Expr} : PG X tg (wG X tg) := ⟨fun pins s σ H v u Q I r h => h pins s u I r⟩
theorem pgsW {tg : List Expr} : PGs X tg (wGs X tg) := ⟨fun pins s σ H v u Q I r h => h pins s u I r⟩
theorem g_of {tg : Expr} {t : TG} {v : V} {σ : St} {H : Hp} {Q : St → Hp → Prop} (h : PG X tg t) (q : t v σ H Q) : wG X tg v σ H Q := fun pins s u I r => h.run pins s σ H v u Q I r q
theorem gs_of {tg : List Expr} {t : TGs} {v : List V} {σ : St} {H : Hp} {Q : St → Hp → Prop} (h : PGs X tg t) (q : t v σ H Q) : wGs X tg v σ H Q := fun pins s u I r => h.run pins s σ H v u Q I r q
/-- the slots that a target stores -/
def tS0 (N : List Str) : Expr → List Nat
  | .Name x _ => [N.idxOf x]
  | _ => []
def tS1 (N : List Str) : Expr → List Nat
  | .Name x _ => [N.idxOf x]
  | .Tuple es _ _ => es.flatMap (tS0 N)
  | _ => []
def tS (N : List Str) : Expr → List Nat
  | .Name x _ => [N.idxOf x]
  | .Tuple es _ _ => es.flatMap (tS1 N)
  | _ => []
/-- slots but these are as they were -/
structure Dif (ts : List Nat) (σ σ' : St) : Prop where
  len : σ'.length = σ.length
  at' : ∀ j, j ∉ ts → σ'[j]? = σ[j]?
theorem Dif.refl (ts : List Nat) (σ : St) : Dif ts σ σ := ⟨rfl, fun _ _ => rfl⟩
theorem Dif.trans {ts us : List Nat} {σ σ' σ'' : St} (h : Dif ts σ σ') (k : Dif us σ' σ'') : Dif (ts ++ us) σ σ'' := by
  refine ⟨k.len.trans h.len, fun j hj => ?_⟩
  rw [k.at' j fun z => hj (List.mem_append_right _ z), h.at' j fun z => hj (List.mem_append_left _ z)]
theorem Dif.sub {ts us : List Nat} {σ σ' : St} (h : Dif ts σ σ') (k : ∀ j, j ∈ ts → j ∈ us) : Dif us σ σ' := ⟨h.len, fun j hj => h.at' j fun z => hj (k j z)⟩
structure dG (X : Cx) (tg : Expr) (d : D) (Γ : Ga) (P : Ga → Prop) : Prop where
  run : ∀ B σ F H v (Q : St → Hp → Prop), Hold X.K B Γ σ F H → Is X.K F v d → (∀ σ' Γ', P Γ' → Dif (tS X.N tg) σ σ' → Hold X.K B Γ' σ' F H → Q σ' H) → wG X tg v σ H Q
instance {X : Cx} {tg : Expr} {d : D} {Γ : Ga} {P : Ga → Prop} : CoeFun (dG X tg d Γ P) fun _ => (∀ B σ F H v (Q : St → Hp → Prop), Hold X.K B Γ σ F H → Is X.K F v d → (∀ σ' Γ', P Γ' → Dif (tS X.N tg) σ σ' → Hold X.K B Γ' σ' F H → Q σ' H) → wG X tg v σ H Q) := ⟨fun h => h.run⟩
structure dGs (X : Cx) (ts : List Expr) (ds : List D) (Γ : Ga) (P : Ga → Prop) : Prop where
  run : ∀ B σ F H vs (Q : St → Hp → Prop), Hold X.K B Γ σ F H → IsL X.K F vs ds → (∀ σ' Γ', P Γ' → Dif (ts.flatMap (tS1 X.N)) σ σ' → Hold X.K B Γ' σ' F H → Q σ' H) → wGs X ts vs σ H Q
instance {X : Cx} {ts : List Expr} {ds : List D} {Γ : Ga} {P : Ga → Prop} : CoeFun (dGs X ts ds Γ P) fun _ => (∀ B σ F H vs (Q : St → Hp → Prop), Hold X.K B Γ σ F H → IsL X.K F vs ds → (∀ σ' Γ', P Γ' → Dif (ts.flatMap (tS1 X.N)) σ σ' → Hold X.K B Γ' σ' F H → Q σ' H) → wGs X ts vs σ H Q) := ⟨fun h => h.run⟩
variable {G : Ga → Prop}
theorem idx_of {N : List Str} {i : Nat} {x : Str} (hN : N.Nodup) (hi : N[i]? = some x) : N.idxOf x = i := by
  obtain ⟨hl, e⟩ := List.getElem?_eq_some_iff.mp hi
  rw [← e]
  exact List.Nodup.idxOf_getElem hN i hl
theorem dG_name {i : Nat} {x : Str} {d : D} {p : Pos} (hN : X.N.Nodup) (k : G (Γ.set i (.im d))) (hi : X.N[i]? = some x := by rfl) (hx : Loc X.env.scope x := by first | exact Or.inl rfl | exact Or.inr rfl)
    (hf : X.fn x = true ∨ X.env.scope.names.lookup x = some .local := by first | exact .inl rfl | exact .inr rfl) : dG X (.Name x p) d Γ G := by
  refine ⟨?_⟩
  intro B σ F H v Q hh hv hq
  refine g_of (pg_name hN hi hx hf) (hq _ _ k ⟨by rw [List.length_set], fun j hj => ?_⟩ (hh.set hv))
  rw [List.getElem?_set_ne]
  rintro rfl
  exact hj (by show i ∈ [X.N.idxOf x]; rw [idx_of hN hi]; exact List.mem_singleton.mpr rfl)
theorem dGs_nil (k : G Γ) : dGs X [] [] Γ G := .mk fun B σ F H vs Q hh hv hq => by
  cases hv
  exact gs_of pgs_nil ⟨rfl, hq _ _ k (.refl _ σ) hh⟩
theorem dGs_cons {t : Expr} {ts : List Expr} {d : D} {ds : List D} (h : dG X t d Γ fun Γ1 => dGs X ts ds Γ1 G) (hs : (assignEach (t :: ts) X.env).map (·.2) = assign t X.env :: (assignEach ts X.env).map (·.2) := by rfl)
    (hsub : ∀ j, j ∈ tS X.N t → j ∈ tS1 X.N t := by exact fun _ h => h) : dGs X (t :: ts) (d :: ds) Γ G := by
  refine ⟨?_⟩
  intro B σ F H vs Q hh hv hq
  cases hv with
  | cons a b =>
    refine gs_of (pgs_cons pgW pgsW hs) ⟨_, _, rfl, h B σ F H _ _ hh a ?_⟩
    intro σ' Γ' r df h'
    refine r B σ' F H _ Q h' b fun σ2 Γ2 g df2 h2 => hq σ2 Γ2 g ?_ h2
    rw [List.flatMap_cons]
    exact (df.sub hsub).trans df2
theorem dG_tup {ts : List Expr} {k n : Nat} {ds : List D} {p : Pos} (hc : X.calm = true) (h : dGs X ts ds Γ G) (hl : ds.length = n) (hn : (assignEach ts X.env).length = n := by rfl) (hst : (assignEach ts X.env).findIdx? (·.1) = none := by rfl) : dG X (.Tuple ts k p) (.tup ds) Γ G := by
  refine ⟨?_⟩
  intro B σ F H v Q hh hv hq
  obtain ⟨q, vs, rfl, hs, il⟩ := hv.sqt hh.ex
  refine g_of (pg_tup hc pgsW hn hst) ⟨q, vs, rfl, hs, by rw [il.length]; exact hl, ?_⟩
  exact h B σ F H vs Q hh il hq
theorem dS_asg {tg : Expr} (h : dE X e Γ fun d Γ1 => dG X tg d Γ1 P.nx) (hs : swapsWithSole [tg] e pos.line X.env = pure false := by rfl) (hw : swappedStores [tg] e X.env = pure none := by rfl)
    (h1' : (assignEach [tg] X.env).map (·.2) = [assign tg X.env] := by rfl) : dS X (.Assign [tg] e pos) Γ P := by
  refine ⟨?_⟩
  intro B σ F H E hh hq
  refine s_of (ps_asg peW pgW hs hw h1') (h B σ F H _ hh ?_)
  intro v d Γ1 F1 H1 r s1 h1 i1
  exact r B σ F1 H1 v _ h1 i1 fun σ' Γ' z _ h' => hq.nx σ' Γ' F1 H1 z s1 h'
/-- a, b = e1, e2 -/
theorem dS_par {i j : Nat} {x y : Str} {px py pt pt2 : Pos} {kt k2 : Nat} (hN : X.N.Nodup) (hc : X.calm = true) (h : dA X [a, b] Γ fun as Γ1 => ∃ d d', as = [.d d, .d d'] ∧ P.nx ((Γ1.set i (.im d)).set j (.im d')))
    (hij : i ≠ j := by decide) (hi : X.N[i]? = some x := by rfl) (hj : X.N[j]? = some y := by rfl) (hx : X.env.scope.names.lookup x = some .local := by rfl) (hy : X.env.scope.names.lookup y = some .local := by rfl)
    (hw : swappedStores [.Tuple [.Name x px, .Name y py] kt pt] (.Tuple [a, b] k2 pt2) X.env = pure (some [x, y]) := by rfl)
    (hs : swapsWithSole [.Tuple [.Name x px, .Name y py] kt pt] (.Tuple [a, b] k2 pt2) pos.line X.env = pure false := by rfl) : dS X (.Assign [.Tuple [.Name x px, .Name y py] kt pt] (.Tuple [a, b] k2 pt2) pos) Γ P := by
  refine ⟨?_⟩
  intro B σ F H E hh hq
  refine s_of (ps_par hc hN hi hj hij hx hy paW hw hs) (h B σ F H _ hh ?_)
  rintro vs as Γ1 F1 H1 ⟨d, d', rfl, r⟩ s1 h1 ar
  cases ar with
  | d i1 ar => cases ar with
    | d i2 ar =>
      cases ar
      exact ⟨_, _, rfl, hq.nx _ _ F1 H1 r s1 ((h1.set i1).set i2)⟩

/-! ### what is walked -/
def wI (X : Cx) (tg iter : Expr) : TI := fun σ H R => ∀ pins s, Inv X pins σ H s → wpAny (model X.prog X.w) X.A (eval iter X.env) (fun v s1 => wpAny (model X.prog X.w) X.A (pyIter v) (PIE X pins σ tg R) X.xe s1) X.xe s
theorem piW {tg iter : Expr} : PI X tg iter (wI X tg iter) := ⟨fun pins s σ H R I h => h pins s I⟩
theorem i_of {tg iter : Expr} {t : TI} {σ : St} {H : Hp} {R : It → Hp → Prop} (h : PI X tg iter t) (q : t σ H R) : wI X tg iter σ H R := fun pins s I => h.run pins s σ H R I q
/-- the items, each as data, while what is frozen stands -/
def WkD (K : PySem.W.Frag) (J : It) (items : List D) (F1 : Hp) : Prop := Walk J items.length (fun H => Same F1 H) fun i H x H' => ∀ F, Same F1 F → Same F H → ∃ d F', items[i]? = some d ∧ Stp F H F' H' ∧ Is K F' x d
structure dI (X : Cx) (tg iter : Expr) (Γ : Ga) (P : List D → Ga → Prop) : Prop where
  run : ∀ B σ F H (R : It → Hp → Prop), Hold X.K B Γ σ F H →
  (∀ J items Γ1 F1 H1, P items Γ1 → Same F F1 → Hold X.K B Γ1 σ F1 H1 → WkD X.K J items F1 → R J H1) → wI X tg iter σ H R
instance {X : Cx} {tg iter : Expr} {Γ : Ga} {P : List D → Ga → Prop} : CoeFun (dI X tg iter Γ P) fun _ => (∀ B σ F H (R : It → Hp → Prop), Hold X.K B Γ σ F H →
  (∀ J items Γ1 F1 H1, P items Γ1 → Same F F1 → Hold X.K B Γ1 σ F1 H1 → WkD X.K J items F1 → R J H1) → wI X tg iter σ H R) := ⟨fun h => h.run⟩
variable {tg iter : Expr} {PI' : List D → Ga → Prop}
theorem wk_flat {K : PySem.W.Frag} {J : It} {n : Nat} {G : Hp → Prop} {vs : List V} {ds : List D} {F1 : Hp} (w : Walk J vs.length G (YAt vs)) (il : IsL K F1 vs ds) (hg : ∀ H, Same F1 H → G H) : WkD K J ds F1 := by
  unfold WkD
  rw [← il.length]
  refine w.mono hg fun i H x H' hi g y F f1 f2 => ?_
  obtain ⟨rfl, e⟩ := y
  obtain ⟨d, e1, e2⟩ := il.got e
  exact ⟨d, F, e1, .refl f2, e2.up (Up.of f1)⟩
theorem dI_list (h : dE X iter Γ fun x Γ1 => ∃ xs, (x = .lst xs ∨ x = .fls xs) ∧ PI' xs Γ1) : dI X tg iter Γ PI' := by
  refine ⟨?_⟩
  intro B σ F H R hh hq
  refine i_of (pi_list peW) (h B σ F H _ hh ?_)
  rintro v x Γ1 F1 H1 ⟨xs, hx, p⟩ s1 h1 i1
  obtain ⟨q, vs, rfl, hs, il⟩ : ∃ q vs, v = .ref q ∧ SqL X.K F1 q vs ∧ IsL X.K F1 vs xs := by
    rcases hx with rfl | rfl
    · exact i1.sql (.refl F1)
    · exact i1.sqf (.refl F1)
  exact ⟨q, rfl, ⟨vs, sql_up (Up.of h1.ex) hs⟩, hq _ xs Γ1 F1 H1 p s1 h1 (wk_flat (n := 0) walk_list il fun H e => sql_up (Up.of e) hs)⟩
theorem dI_tup (h : dE X iter Γ fun x Γ1 => ∃ xs, x = .tup xs ∧ PI' xs Γ1) : dI X tg iter Γ PI' := by
  refine ⟨?_⟩
  intro B σ F H R hh hq
  refine i_of (pi_tup peW) (h B σ F H _ hh ?_)
  rintro v x Γ1 F1 H1 ⟨xs, rfl, p⟩ s1 h1 i1
  obtain ⟨q, vs, rfl, hs, il⟩ := i1.sqt (.refl F1)
  exact ⟨q, rfl, ⟨vs, sqt_up (Up.of h1.ex) hs⟩, hq _ xs Γ1 F1 H1 p s1 h1 (wk_flat (n := 0) walk_tup il fun H e => sqt_up (Up.of e) hs)⟩
/-- the ints lo, lo + 1, .. (n of them) -/
def upto (lo : Int) (n : Nat) : List D := (List.range n).map fun (i : Nat) => D.int (lo + (i : Int))
theorem upto_len (lo : Int) (n : Nat) : (upto lo n).length = n := by simp [upto]
theorem upto_get {lo : Int} {n i : Nat} (h : i < n) : (upto lo n)[i]? = some (.int (lo + (i : Int))) := by simp [upto, h]
theorem wk_range {K : PySem.W.Frag} {lo : Int} {n : Nat} {F1 : Hp} : WkD K (Itr lo n) (upto lo n) F1 := by
  unfold WkD
  rw [upto_len]
  refine walk_range.mono (fun _ _ => trivial) fun i H x H' hi g y F f1 f2 => ?_
  obtain ⟨rfl, rfl⟩ := y
  exact ⟨_, F, upto_get hi, .refl f2, .int _⟩
theorem dI_range1 {p : Pos} (hm : X.mg "range" = none) (h : dA X [a] Γ fun as Γ1 => ∃ n : Int, as = [.d (.int n)] ∧ -(2 ^ 62) ≤ n ∧ n < 2 ^ 62 ∧ PI' (upto 0 n.toNat) Γ1) (hg : Gl X "range" := by rfl)
    (hs : starEach [a] X.env = [(false, eval a X.env)] := by rfl) : dI X tg (.Call (.Name "range" p) [a] [] pos) Γ PI' := by
  refine ⟨?_⟩
  intro B σ F H R hh hq
  refine i_of (pi_range1 hg hm paW hs) (h B σ F H _ hh ?_)
  rintro vs as Γ1 F1 H1 ⟨n, rfl, b1, b2, p⟩ s1 h1 ar
  cases ar with
  | d i1 ar =>
    cases ar; cases i1
    exact ⟨n, rfl, b1, b2, hq _ _ Γ1 F1 H1 p s1 h1 wk_range⟩
theorem dI_range2 {p : Pos} (hm : X.mg "range" = none) (h : dA X [a, b] Γ fun as Γ1 => ∃ lo n : Int, as = [.d (.int lo), .d (.int n)] ∧ (-(2 ^ 62) ≤ lo ∧ lo < 2 ^ 62 ∧ -(2 ^ 62) ≤ n ∧ n < 2 ^ 62) ∧ PI' (upto lo (n - lo).toNat) Γ1) (hg : Gl X "range" := by rfl)
    (hs : starEach [a, b] X.env = [(false, eval a X.env), (false, eval b X.env)] := by rfl) (hs2 : starEach [b] X.env = [(false, eval b X.env)] := by rfl) : dI X tg (.Call (.Name "range" p) [a, b] [] pos) Γ PI' := by
  refine ⟨?_⟩
  intro B σ F H R hh hq
  refine i_of (pi_range2 hg hm paW hs hs2) (h B σ F H _ hh ?_)
  rintro vs as Γ1 F1 H1 ⟨lo, n, rfl, bb, p⟩ s1 h1 ar
  cases ar with
  | d i1 ar => cases ar with
    | d i2 ar =>
      cases ar; cases i1; cases i2
      exact ⟨lo, n, rfl, bb, hq _ _ Γ1 F1 H1 p s1 h1 wk_range⟩
/-- a text, sign by sign -/
def signs (z : Str) : List D := z.cps.toList.map fun k => D.str ⟨#[k]⟩
theorem dI_str (h : dE X iter Γ fun x Γ1 => ∃ z, x = .str z ∧ PI' (signs z) Γ1) : dI X tg iter Γ PI' := by
  refine ⟨?_⟩
  intro B σ F H R hh hq
  refine i_of (pi_str peW) (h B σ F H _ hh ?_)
  rintro v x Γ1 F1 H1 ⟨z, rfl, p⟩ s1 h1 i1
  cases i1
  refine ⟨z, rfl, hq _ _ Γ1 F1 H1 p s1 h1 ?_⟩
  unfold WkD
  have hl : (signs z).length = z.cps.size := by simp [signs]
  rw [hl]
  refine walk_str.mono (fun _ _ => trivial) fun i H x H' hi g y F f1 f2 => ?_
  obtain ⟨rfl, k, e, rfl⟩ := y
  refine ⟨_, F, ?_, .refl f2, .str _⟩
  simp [signs, e]
/-- a new pair each -/
theorem stp_pair {K : PySem.W.Frag} {F H : Hp} {T : Addr} {x y : V} {d d' : D} (f : Same F H) (hT : H T = none) (a : Is K F x d) (b : Is K F y d') : ∃ F', Stp F H F' (upd H T (.tup [x, y])) ∧ Is K F' (.ref T) (.tup [d, d']) := by
  have st : Stp F H (upd F T (.tup [x, y])) (upd H T (.tup [x, y])) := .new f hT
  exact ⟨_, st, .tup (SqT.of upd_same) (.cons (a.up (Up.of st.f)) (.cons (b.up (Up.of st.f)) .nil))⟩
def pairsFrom (i : Int) : List D → List D
  | [] => []
  | x :: xs => .tup [.int i, x] :: pairsFrom (i + 1) xs
theorem pairsFrom_len : ∀ (xs : List D) (i : Int), (pairsFrom i xs).length = xs.length
  | [], _ => rfl
  | _ :: xs, i => congrArg Nat.succ (pairsFrom_len xs (i + 1))
theorem pairsFrom_get : ∀ {xs : List D} {i : Int} {k : Nat} {d : D}, xs[k]? = some d → (pairsFrom i xs)[k]? = some (.tup [.int (i + (k : Int)), d])
  | [], _, _, _, h => by simp at h
  | x :: xs, i, 0, d, h => by
    cases h
    show some (D.tup [.int i, x]) = _
    simp
  | x :: xs, i, k + 1, d, h => by
    have := pairsFrom_get (xs := xs) (i := i + 1) (k := k) (d := d) h
    show (pairsFrom (i + 1) xs)[k]? = _
    rw [this]
    have e : i + 1 + (k : Int) = i + ((k + 1 : Nat) : Int) := by omega
    rw [e]
theorem dI_enum {elts : List Expr} {kk : Nat} {tp p : Pos} (hm : X.mg "enumerate" = none) (h : dA X [a] Γ fun as Γ1 => ∃ x xs, as = [.d x] ∧ (x = .lst xs ∨ x = .fls xs) ∧ PI' (pairsFrom 0 xs) Γ1) (hg : Gl X "enumerate" := by rfl)
    (hs : starEach [a] X.env = [(false, eval a X.env)] := by rfl) : dI X (.Tuple elts kk tp) (.Call (.Name "enumerate" p) [a] [] pos) Γ PI' := by
  refine ⟨?_⟩
  intro B σ F H R hh hq
  refine i_of (pi_enum hg hm paW hs) (h B σ F H _ hh ?_)
  rintro vs as Γ1 F1 H1 ⟨x, xs, rfl, hx, p⟩ s1 h1 ar
  cases ar with
  | d i1 ar =>
    cases ar
    rename_i v
    obtain ⟨q, vs, rfl, hs, il⟩ : ∃ q vs, v = .ref q ∧ SqL X.K F1 q vs ∧ IsL X.K F1 vs xs := by
      rcases hx with rfl | rfl
      · exact i1.sql (.refl F1)
      · exact i1.sqf (.refl F1)
    refine ⟨q, vs, rfl, sql_up (Up.of h1.ex) hs, hq _ _ Γ1 F1 H1 p s1 h1 ?_⟩
    unfold WkD
    rw [pairsFrom_len, ← il.length]
    refine walk_enum.mono (fun H e => sql_up (Up.of e) hs) fun i H x H' hi g y F f1 f2 => ?_
    obtain ⟨T, x', y', rfl, hT, rfl, ex, ey⟩ := y
    cases ex
    obtain ⟨d, e1, e2⟩ := il.got ey
    obtain ⟨F', st, iq⟩ := stp_pair f2 hT (.int (i : Nat)) (e2.up (Up.of f1))
    refine ⟨_, F', pairsFrom_get e1, st, ?_⟩
    rw [Int.zero_add]
    exact iq

/-! ### for, while -/
theorem dS_for {body : List Stmt} (hp : PassesOwn (model X.prog X.w) X.A X.env X.xe) (hc : X.calm = true)
    (h : dI X tg iter Γ fun items Γ1 => ∃ I : Nat → Ga → Prop, I 0 Γ1 ∧ (∀ k d Γ2, items[k]? = some d → I k Γ2 → dG X tg d Γ2 fun Γ3 => dSs X body Γ3 { nx := I (k + 1), ct := I (k + 1), bk := P.nx, rt := P.rt, rn := P.rn }) ∧ ∀ Γ2, I items.length Γ2 → P.nx Γ2)
    (hs : ∀ x, foldedSetIterable iter X.env x = pure x := by intro _; rfl) : dS X (.For tg iter body [] pos) Γ P := by
  refine ⟨?_⟩
  intro B σ F H E hh hq
  refine s_of (ps_for hp hc piW pgW pssW hs) (h B σ F H _ hh ?_)
  rintro J items Γ1 F1 H1 ⟨I, i0, turn, last⟩ s1 h1 wk
  refine for_it wk (fun k σ' H' => ∃ Γ' F', I k Γ' ∧ Same F1 F' ∧ Hold X.K B Γ' σ' F' H') ⟨Γ1, F1, i0, .refl F1, h1⟩ ?_ ?_ ?_
  · rintro k σ' H' _ ⟨Γ', F', _, f, h'⟩
    exact f.trans h'.ex
  · rintro k x σ' H' H'' hk ⟨Γ', F', ik, f, h'⟩ y
    obtain ⟨d, F2, e1, st, ix⟩ := y F' f h'.ex
    have h2 := h'.stp st
    refine turn k d Γ' e1 ik B σ' F2 H'' x _ h2 ix ?_
    intro σ2 Γ2 body' _ h3
    have f2 : Same F1 F2 := f.trans st.f
    exact body' B σ2 F2 H'' _ h3 ⟨fun σ3 Γ3 F3 H3 r s3 h4 => ⟨Γ3, F3, r, f2.trans s3, h4⟩, fun v d σ3 Γ3 F3 H3 r s3 => hq.rt v d σ3 Γ3 F3 H3 r ((s1.trans f2).trans s3),
      fun σ3 Γ3 F3 H3 r s3 => hq.nx σ3 Γ3 F3 H3 r ((s1.trans f2).trans s3), fun σ3 Γ3 F3 H3 r s3 h4 => ⟨Γ3, F3, r, f2.trans s3, h4⟩,
      fun p vs ds σ3 Γ3 F3 H3 r s3 => hq.rn p vs ds σ3 Γ3 F3 H3 r ((s1.trans f2).trans s3)⟩
  · rintro σ' H' ⟨Γ', F', ik, f, h'⟩
    exact hq.nx σ' Γ' F' H' (last Γ' ik) (s1.trans f) h'
theorem dS_while {body : List Stmt} (hp : PassesOwn (model X.prog X.w) X.A X.env X.xe) (I : Nat → Ga → Prop) (n : Nat) (i0 : I n Γ)
    (h : ∀ k Γ1, I k Γ1 → dT X c Γ1 fun t Γ2 => (t = true → dSs X body Γ2 { nx := fun Γ3 => ∃ m, m < k ∧ I m Γ3, ct := fun Γ3 => ∃ m, m < k ∧ I m Γ3, bk := P.nx, rt := P.rt, rn := P.rn }) ∧ (t = false → P.nx Γ2)) : dS X (.While c body [] pos) Γ P := by
  refine ⟨?_⟩
  intro B σ F H E hh hq
  refine s_of (ps_while hp ptW pssW) ⟨fun k σ' H' => ∃ Γ' F', I k Γ' ∧ Same F F' ∧ Hold X.K B Γ' σ' F' H', ⟨n, Γ, F, i0, .refl F, hh⟩, ?_⟩
  rintro k σ' H' ⟨Γ', F', ik, f, h'⟩
  refine h k Γ' ik B σ' F' H' _ h' ?_
  intro t Γ2 F2 H2 ht s2 h2
  cases t with
  | true =>
    refine iteT ⟨fun σ3 H3 => ∃ Γ3 F3 m, m < k ∧ I m Γ3 ∧ Same F F3 ∧ Hold X.K B Γ3 σ3 F3 H3, ?_, ?_⟩
    · rintro σ3 H3 ⟨Γ3, F3, m, hm, im, f3, h3⟩
      exact ⟨m, hm, Γ3, F3, im, f3, h3⟩
    · have f2 : Same F F2 := f.trans s2
      exact ht.1 rfl B σ' F2 H2 _ h2 ⟨fun σ3 Γ3 F3 H3 ⟨m, hm, r⟩ s3 h4 => ⟨Γ3, F3, m, hm, r, f2.trans s3, h4⟩, fun v d σ3 Γ3 F3 H3 r s3 => hq.rt v d σ3 Γ3 F3 H3 r (f2.trans s3),
        fun σ3 Γ3 F3 H3 r s3 => hq.nx σ3 Γ3 F3 H3 r (f2.trans s3), fun σ3 Γ3 F3 H3 ⟨m, hm, r⟩ s3 h4 => ⟨Γ3, F3, m, hm, r, f2.trans s3, h4⟩,
        fun p vs ds σ3 Γ3 F3 H3 r s3 => hq.rn p vs ds σ3 Γ3 F3 H3 r (f2.trans s3)⟩
  | false => exact iteF (hq.nx σ' Γ2 F2 H2 (ht.2 rfl) (f.trans s2) h2)
end
end Nd
/-! Part 5: comprehensions, locked dicts. -/
namespace Nd
open PySem PySem.Spec L2
open PyProof.Rows hiding St
variable [Tb]

section
variable {X : Cx} {a b c e : Expr} {es : List Expr} {pos : Pos} {Γ : Ga} {P : D → Ga → Prop} {PN : List D → Ga → Prop}

def wipeG (Γ : Ga) : List Nat → Ga
  | [] => Γ
  | v :: vs => (wipeG Γ vs).set v .un
theorem wipeG_len (Γ : Ga) : ∀ vs, (wipeG Γ vs).length = Γ.length
  | [] => rfl
  | v :: vs => by rw [wipeG, List.length_set, wipeG_len Γ vs]
theorem wipeG_in {Γ : Ga} {i : Nat} : ∀ {vs : List Nat} {s : Sl}, i ∈ vs → (wipeG Γ vs)[i]? = some s → s = .un
  | v :: vs, s, m, e => by
    rw [wipeG] at e
    by_cases z : v = i
    · subst z
      have hl := (List.getElem?_eq_some_iff.mp e).1
      rw [List.length_set] at hl
      rw [List.getElem?_set_self hl] at e
      cases e; rfl
    · rw [List.getElem?_set_ne z] at e
      rcases List.mem_cons.mp m with w | w
      · exact absurd w.symm z
      · exact wipeG_in w e
theorem wipeG_out {Γ : Ga} {i : Nat} : ∀ {vs : List Nat}, i ∉ vs → (wipeG Γ vs)[i]? = Γ[i]?
  | [], _ => rfl
  | v :: vs, h => by
    rw [wipeG, List.getElem?_set_ne (fun z => h (by rw [z]; exact List.mem_cons_self)), wipeG_out fun z => h (List.mem_cons_of_mem _ z)]
theorem wipe_in {σ : St} {i : Nat} : ∀ {vs : List Nat}, i ∈ vs → i < σ.length → (wipe σ vs)[i]? = some none
  | v :: vs, m, hl => by
    rw [wipe]
    by_cases z : v = i
    · subst z
      rw [List.getElem?_set_self (by rw [wipe_length]; exact hl)]
    · rw [List.getElem?_set_ne z]
      rcases List.mem_cons.mp m with w | w
      · exact absurd w.symm z
      · exact wipe_in w hl
theorem wipe_out {σ : St} {i : Nat} : ∀ {vs : List Nat}, i ∉ vs → (wipe σ vs)[i]? = σ[i]?
  | [], _ => rfl
  | v :: vs, h => by
    rw [wipe, List.getElem?_set_ne (fun z => h (by rw [z]; exact List.mem_cons_self)), wipe_out fun z => h (List.mem_cons_of_mem _ z)]
theorem wipe_dif {σ σ' : St} {ts vs : List Nat} (h : Dif ts (wipe σ vs) σ') (hs : ∀ t, t ∈ ts → t ∈ vs) : wipe σ' vs = wipe σ vs := by
  apply List.ext_getElem?
  intro j
  by_cases m : j ∈ vs
  · by_cases hl : j < σ.length
    · rw [wipe_in m hl, wipe_in m (by rw [h.len, wipe_length]; exact hl)]
    · rw [List.getElem?_eq_none (by rw [wipe_length, h.len, wipe_length]; omega), List.getElem?_eq_none (by rw [wipe_length]; omega)]
  · rw [wipe_out m, h.at' j fun z => m (hs j z)]
/-- the block's own slots are forgotten -/
theorem Hold.wipe {K : PySem.W.Frag} {B : Bs} {σ : St} {F H : Hp} (h : Hold K B Γ σ F H) (vs : List Nat) : Hold K B (wipeG Γ vs) (L2.wipe σ vs) F H := by
  obtain ⟨fp, S⟩ := h.sl
  refine ⟨by rw [wipeG_len, wipe_length]; exact h.len, ⟨fun i => if i ∈ vs then [] else fp i, fun i s e => ?_, fun i => ?_, fun i j a m n => ?_, fun i a m => ?_, fun i a u m => ?_⟩, h.ex, h.ff, h.nw, h.fr, h.tb⟩
  · have hl : i < σ.length := by
      have := (List.getElem?_eq_some_iff.mp e).1
      rw [wipeG_len, ← h.len] at this; exact this
    by_cases m : i ∈ vs
    · cases wipeG_in m e
      exact ⟨none, wipe_in m hl, by show SlR K F H .un none (if i ∈ vs then [] else fp i); rw [if_pos m]; exact .un⟩
    · rw [wipeG_out m] at e
      obtain ⟨x, e1, e2⟩ := S.r i s e
      exact ⟨x, by rw [wipe_out m]; exact e1, by show SlR K F H s x (if i ∈ vs then [] else fp i); rw [if_neg m]; exact e2⟩
  · show (if i ∈ vs then [] else fp i).Nodup
    by_cases m : i ∈ vs
    · rw [if_pos m]; exact List.nodup_nil
    · rw [if_neg m]; exact S.nd i
  · have m' : a ∈ (if i ∈ vs then [] else fp i) := m
    have n' : a ∈ (if j ∈ vs then [] else fp j) := n
    by_cases z : i ∈ vs
    · rw [if_pos z] at m'; cases m'
    · by_cases y : j ∈ vs
      · rw [if_pos y] at n'; cases n'
      · rw [if_neg z] at m'; rw [if_neg y] at n'; exact S.ap i j a m' n'
  · have m' : a ∈ (if i ∈ vs then [] else fp i) := m
    by_cases z : i ∈ vs
    · rw [if_pos z] at m'; cases m'
    · rw [if_neg z] at m'; exact S.ok i a m'
  · have m' : a ∈ (if i ∈ vs then [] else fp i) := m
    by_cases z : i ∈ vs
    · rw [if_pos z] at m'; cases m'
    · rw [if_neg z] at m'; exact S.pl i a u m'
/-- .. and stay so where the slots come back -/
theorem Hold.unwipe {K : PySem.W.Frag} {B : Bs} {σ : St} {F H : Hp} {vs : List Nat} (h : Hold K B Γ (L2.wipe σ vs) F H) : Hold K B (wipeG Γ vs) σ F H := by
  obtain ⟨fp, S⟩ := h.sl
  have hl0 : σ.length = Γ.length := by rw [← h.len, wipe_length]
  refine ⟨by rw [wipeG_len]; exact hl0, ⟨fun i => if i ∈ vs then [] else fp i, fun i s e => ?_, fun i => ?_, fun i j a m n => ?_, fun i a m => ?_, fun i a u m => ?_⟩, h.ex, h.ff, h.nw, h.fr, h.tb⟩
  · have hl : i < σ.length := by
      have := (List.getElem?_eq_some_iff.mp e).1
      rw [wipeG_len, ← hl0] at this; exact this
    by_cases m : i ∈ vs
    · cases wipeG_in m e
      exact ⟨σ[i], List.getElem?_eq_getElem hl, by show SlR K F H .un _ (if i ∈ vs then [] else fp i); rw [if_pos m]; exact .un⟩
    · rw [wipeG_out m] at e
      obtain ⟨x, e1, e2⟩ := S.r i s e
      rw [wipe_out m] at e1
      exact ⟨x, e1, by show SlR K F H s x (if i ∈ vs then [] else fp i); rw [if_neg m]; exact e2⟩
  · show (if i ∈ vs then [] else fp i).Nodup
    by_cases m : i ∈ vs
    · rw [if_pos m]; exact List.nodup_nil
    · rw [if_neg m]; exact S.nd i
  · have m' : a ∈ (if i ∈ vs then [] else fp i) := m
    have n' : a ∈ (if j ∈ vs then [] else fp j) := n
    by_cases z : i ∈ vs
    · rw [if_pos z] at m'; cases m'
    · by_cases y : j ∈ vs
      · rw [if_pos y] at n'; cases n'
      · rw [if_neg z] at m'; rw [if_neg y] at n'; exact S.ap i j a m' n'
  · have m' : a ∈ (if i ∈ vs then [] else fp i) := m
    by_cases z : i ∈ vs
    · rw [if_pos z] at m'; cases m'
    · rw [if_neg z] at m'; exact S.ok i a m'
  · have m' : a ∈ (if i ∈ vs then [] else fp i) := m
    by_cases z : i ∈ vs
    · rw [if_pos z] at m'; cases m'
    · rw [if_neg z] at m'; exact S.pl i a u m'
theorem wipeG_idem (Γ : Ga) (vs : List Nat) : wipeG (wipeG Γ vs) vs = wipeG Γ vs := by
  apply List.ext_getElem?
  intro j
  by_cases m : j ∈ vs
  · by_cases hl : j < Γ.length
    · have e1 : (wipeG (wipeG Γ vs) vs)[j]? = some ((wipeG (wipeG Γ vs) vs)[j]'(by rw [wipeG_len, wipeG_len]; exact hl)) := List.getElem?_eq_getElem _
      have e2 : (wipeG Γ vs)[j]? = some ((wipeG Γ vs)[j]'(by rw [wipeG_len]; exact hl)) := List.getElem?_eq_getElem _
      rw [e1, e2, wipeG_in m e1, wipeG_in m e2]
    · rw [List.getElem?_eq_none (by rw [wipeG_len, wipeG_len]; omega), List.getElem?_eq_none (by rw [wipeG_len]; omega)]
  · rw [wipeG_out m]

/-! ### tests of a clause -/
def wTs (X : Cx) (ifs : List Expr) : TT := fun σ H Q => ∀ pins s, Inv X pins σ H s →
  wpAny (model X.prog X.w) X.A (forIn ifs true fun c r => if r = true then do let ok ← isTrue c X.env (eval c X.env); pure (ForInStep.yield ok) else pure (ForInStep.yield r)) (TP X pins σ Q) X.xe s
theorem ptsW {ifs : List Expr} : PTs X ifs (wTs X ifs) := ⟨fun pins s _ _ _ I h => h pins s I⟩
structure dTs (X : Cx) (ifs : List Expr) (Γ : Ga) (P : Bool → Ga → Prop) : Prop where
  run : ∀ B σ F H (Q : Bool → Hp → Prop), Hold X.K B Γ σ F H → (∀ b Γ' F' H', P b Γ' → Same F F' → Hold X.K B Γ' σ F' H' → Q b H') → wTs X ifs σ H Q
instance {X : Cx} {ifs : List Expr} {Γ : Ga} {P : Bool → Ga → Prop} : CoeFun (dTs X ifs Γ P) fun _ => (∀ B σ F H (Q : Bool → Hp → Prop), Hold X.K B Γ σ F H → (∀ b Γ' F' H', P b Γ' → Same F F' → Hold X.K B Γ' σ F' H' → Q b H') → wTs X ifs σ H Q) := ⟨fun h => h.run⟩
theorem dTs_nil {R : Bool → Ga → Prop} (k : R true Γ) : dTs X [] Γ R := .mk fun B σ F H Q hh hq pins s I => pts_nil.run pins s σ H Q I (hq true Γ F H k (.refl F) hh)
theorem dTs_one {R : Bool → Ga → Prop} (h : dT X c Γ R) : dTs X [c] Γ R := .mk fun B σ F H Q hh hq pins s I => (pts_one ptW).run pins s σ H Q I (h B σ F H Q hh hq)

/-! ### [elt for target in iter if ..] -/
def LcTurn (X : Cx) (scope : Scope) (tg : Expr) (ifs : List Expr) (elt : Expr) (vs : List Nat) (I : Nat → List D → Ga → Prop) (k : Nat) (acc : List D) (d : D) (Γ2 : Ga) : Prop :=
  ∀ s0 H0 C cl fp, dG (X.blk s0 H0 scope (compEnvC scope cl C X.env) fp) tg d Γ2 fun Γ3 => ∀ s0 H0 C cl fp, dTs (X.blk s0 H0 scope (compEnvC scope cl C X.env) fp) ifs Γ3 fun t Γ4 =>
    (t = true → ∀ s0 H0 C cl fp, dE (X.blk s0 H0 scope (compEnvC scope cl C X.env) fp) elt Γ4 fun y Γ5 => I (k + 1) (acc ++ [y]) (wipeG Γ5 vs)) ∧ (t = false → I (k + 1) acc (wipeG Γ4 vs))
def bG (X : Cx) (scope : Scope) (tg : Expr) : TG := fun v σ H Q => ∀ s0 H0 C cl fp, wG (X.blk s0 H0 scope (compEnvC scope cl C X.env) fp) tg v σ H Q
def bT (X : Cx) (scope : Scope) (ifs : List Expr) : TT := fun σ H Q => ∀ s0 H0 C cl fp, wTs (X.blk s0 H0 scope (compEnvC scope cl C X.env) fp) ifs σ H Q
def bE (X : Cx) (scope : Scope) (elt : Expr) : TE := fun σ H Q => ∀ s0 H0 C cl fp, wE (X.blk s0 H0 scope (compEnvC scope cl C X.env) fp) elt σ H Q
/-- the turns of a comprehension -/
theorem lc_run {elt tg : Expr} {ifs : List Expr} {scope : Scope} {vs : List Nat} {J : It} {items : List D} {I : Nat → List D → Ga → Prop} {B : Bs} {σ : St} {F1 H1 : Hp} {Γ1 : Ga} {Q : VK} {Dl : Addr}
    (hsub : ∀ t, t ∈ tS X.N tg → t ∈ vs) (hlen : items.length ≤ 1000000) (i0 : I 0 [] (wipeG Γ1 vs)) (turn : ∀ k acc d Γ2, items[k]? = some d → acc.length ≤ k → I k acc Γ2 → LcTurn X scope tg ifs elt vs I k acc d Γ2)
    (h1 : Hold X.K B Γ1 σ F1 H1) (wk : WkD X.K J items F1) (hD : H1 Dl = none)
    (hq : ∀ acc av Γ2 F' H', I items.length acc Γ2 → Same F1 F' → Hold X.K B (wipeG Γ2 vs) σ F' H' → H' Dl = none → IsL X.K F' av acc → Q (.ref Dl) (upd H' Dl (.lst av))) :
    ∃ W : Nat → Nat → Hp → Prop, (∃ m, W 0 m (upd H1 Dl (.lst []))) ∧ ∀ i m H, W i m H →
      (J.stop i H ∧ Q (.ref Dl) H) ∨ (J.go i H ∧ ∃ Nx : Hp → Prop, (∀ H', Nx H' → ∃ m', m' < m ∧ W (i + 1) m' H') ∧ ∀ x H', J.yld i H x H' → bG X scope tg x (wipe σ vs) H' fun σ2 H2 => wipe σ2 vs = wipe σ vs ∧ bT X scope ifs σ2 H2 fun b H3 =>
        if b = true then bE X scope elt σ2 H3 fun y H4 => ∃ acc, H4 Dl = some (.lst acc) ∧ acc.length < sizeLine ∧ Nx (upd H4 Dl (.lst (acc ++ [y]))) else Nx H3) := by
  have hD0 : B.H0 Dl = none ∨ B.ft Dl := h1.fresh hD
  refine lc_it (g := bG X scope tg) (tt := bT X scope ifs) (te := bE X scope elt) (Qd := fun H => Q (.ref Dl) H) wk (fun k H' => ∃ acc av Γ' F', acc.length ≤ k ∧ I k acc Γ' ∧ Same F1 F' ∧ IsL X.K F' av acc ∧ Lon X.K B Γ' (wipe σ vs) F' H' Dl (.lst av)) ?_ ?_ ?_ ?_
  · exact ⟨[], [], _, F1, Nat.le_refl _, i0, .refl F1, .nil, Lon.start (h1.wipe vs) hD pl_lst⟩
  · rintro k H' _ ⟨acc, av, Γ', F', _, _, f, _, lo⟩
    exact f.trans lo.hb.ex
  · rintro k x H' H'' hk ⟨acc, av, Γ', F', hal, ik, f, il, lo⟩ y
    obtain ⟨d, F2, e1, st, ix⟩ := y F' f lo.hb.ex
    have lo2 := lo.stp st
    have il2 := il.up (Up.of st.f)
    obtain ⟨ft, q, hf, n⟩ := lo2.ex
    intro s0 H0 C cl fp
    refine turn k acc d Γ' e1 hal ik s0 H0 C cl fp _ (wipe σ vs) F2 H'' x _ q ix ?_
    intro σ2 Γ3 tst df q2
    have ws : wipe σ2 vs = wipe σ vs := wipe_dif df hsub
    refine ⟨ws, ?_⟩
    intro s0 H0 C cl fp
    refine tst s0 H0 C cl fp _ σ2 F2 H'' _ q2 ?_
    intro t Γ4 F4 H4 ht s4 q4
    have lo4 := lo2.stay hf n q4
    have lw4 : Lon X.K B (wipeG Γ4 vs) (wipe σ vs) F4 H4 Dl (.lst av) := by
      have := lo2.stay hf n (q4.wipe vs)
      rw [ws] at this
      exact this
    cases t with
    | true =>
      refine iteT ?_
      intro s0 H0 C cl fp
      obtain ⟨ft4, p4, hf4, n4⟩ := lo4.ex
      refine ht.1 rfl s0 H0 C cl fp _ σ2 F4 H4 _ p4 ?_
      intro v yd Γ5 F5 H5 r s5 q5 i5
      have lo5 : Lon X.K B (wipeG Γ5 vs) (wipe σ vs) F5 H5 Dl (.lst av) := by
        have := lo4.stay hf4 n4 (q5.wipe vs)
        rw [ws] at this
        exact this
      have hk' : k < items.length := hk
      refine ⟨av, lo5.at', by rw [il.length, sizeLine_eq]; omega, acc ++ [yd], av ++ [v], _, F5, by rw [List.length_append]; show acc.length + 1 ≤ k + 1; omega, r, ((f.trans st.f).trans s4).trans s5, (il2.up (Up.of (s4.trans s5))).append (.cons i5 .nil), lo5.upd hD0 pl_lst⟩
    | false => exact iteF ⟨acc, av, _, F4, by omega, ht.2 rfl, (f.trans st.f).trans s4, il2.up (Up.of s4), lw4⟩
  · rintro H' ⟨acc, av, Γ', F', _, ik, f, il, lo⟩
    obtain ⟨H2, h2, hc, rfl⟩ := lo.done hD0
    exact hq acc av Γ' F' H2 ik f h2.unwipe hc il
theorem dN_lc {elt tg iter : Expr} {ifs : List Expr} {scope : Scope} (own : List (Str × Nat)) (hc : X.calm = true) (hN : X.N.Nodup) (ok : BlkOk X.N X.env.scope scope own)
    (hsub : ∀ t, t ∈ tS X.N tg → t ∈ own.map (·.2))
    (h : dI X tg iter Γ fun items Γ1 => items.length ≤ 1000000 ∧ ∃ I : Nat → List D → Ga → Prop, I 0 [] (wipeG Γ1 (own.map (·.2))) ∧ (∀ k acc d Γ2, items[k]? = some d → acc.length ≤ k → I k acc Γ2 → LcTurn X scope tg ifs elt (own.map (·.2)) I k acc d Γ2) ∧
      ∀ acc Γ2, I items.length acc Γ2 → PN acc (wipeG Γ2 (own.map (·.2)))) (hs : ∀ x, foldedSetIterable iter X.env x = pure x := by intro _; rfl) : dN X (.ListComp elt [⟨tg, iter, ifs, 0⟩] scope pos) Γ PN := by
  refine ⟨?_⟩
  intro B σ F H Q hh hq
  refine e_of (pe_lc (own := own) (wi := wI X tg iter) (g := bG X scope tg) (tt := bT X scope ifs) (te := bE X scope elt)
    hc hN piW ok (fun s0 H0 C cl fp => ⟨fun pins s σ H v u Q I r z => z s0 H0 C cl fp pins s u I r⟩) (fun s0 H0 C cl fp => ⟨fun pins s σ H Q I z => z s0 H0 C cl fp pins s I⟩)
    (fun s0 H0 C cl fp => ⟨fun pins s σ H Q I z => z s0 H0 C cl fp pins s I⟩) hs) (h B σ F H _ hh ?_)
  rintro J items Γ1 F1 H1 ⟨hlen, I, i0, turn, last⟩ s1 h1 wk Dl hD
  exact lc_run hsub hlen i0 turn h1 wk hD fun acc av Γ2 F' H' ik f h' hn il => hq Dl av acc _ F' H' (last acc Γ2 ik) (s1.trans f) h' hn il

/-- y = [elt for ..], a statement of its own -/
theorem dS_setLc {P : Ou} {elt tg iter : Expr} {ifs : List Expr} {scope : Scope} {i : Nat} {y : Str} {py spos : Pos} (own : List (Str × Nat)) (hc : X.calm = true) (hN : X.N.Nodup) (ok : BlkOk X.N X.env.scope scope own)
    (hsub : ∀ t, t ∈ tS X.N tg → t ∈ own.map (·.2))
    (h : dI X tg iter Γ fun items Γ1 => items.length ≤ 1000000 ∧ ∃ I : Nat → List D → Ga → Prop, I 0 [] (wipeG Γ1 (own.map (·.2))) ∧ (∀ k acc d Γ2, items[k]? = some d → acc.length ≤ k → I k acc Γ2 → LcTurn X scope tg ifs elt (own.map (·.2)) I k acc d Γ2) ∧
      ∀ acc Γ2, I items.length acc Γ2 → P.nx ((wipeG Γ2 (own.map (·.2))).set i (.im (.lst acc)))) (hsw : swapsWith (.ListComp elt [⟨tg, iter, ifs, 0⟩] scope pos) (some (.Name y py)) spos.line X.env = pure true)
    (hy : X.N[i]? = some y := by rfl) (hyl : X.env.scope.names.lookup y = some .local := by rfl) (hs : ∀ x, foldedSetIterable iter X.env x = pure x := by intro _; rfl) : dS X (.Assign [.Name y py] (.ListComp elt [⟨tg, iter, ifs, 0⟩] scope pos) spos) Γ P := by
  refine ⟨?_⟩
  intro B σ F H E hh hq
  refine s_of (ps_setLc (own := own) (wi := wI X tg iter) (g := bG X scope tg) (tt := bT X scope ifs) (te := bE X scope elt)
    hc hN hy hyl hsw piW ok (fun s0 H0 C cl fp => ⟨fun pins s σ H v u Q I r z => z s0 H0 C cl fp pins s u I r⟩) (fun s0 H0 C cl fp => ⟨fun pins s σ H Q I z => z s0 H0 C cl fp pins s I⟩)
    (fun s0 H0 C cl fp => ⟨fun pins s σ H Q I z => z s0 H0 C cl fp pins s I⟩) hs) (h B σ F H _ hh ?_)
  rintro J items Γ1 F1 H1 ⟨hlen, I, i0, turn, last⟩ s1 h1 wk Dl hD
  refine lc_run (Q := fun x H1 => gName i x σ H1 E.nx) hsub hlen i0 turn h1 wk hD fun acc av Γ2 F' H' ik f h' hn il => ?_
  have st : Stp F' H' (upd F' Dl (.lst av)) (upd H' Dl (.lst av)) := .new h'.ex hn
  exact hq.nx _ _ _ _ (last acc Γ2 ik) ((s1.trans f).trans st.f) ((h'.stp st).set (.lst upd_same (il.up (Up.of st.f))))

/-! ### dicts walked -/
/-- while e runs, the dict in slot i is locked -/
theorem dE_lock {i : Nat} {kvs : List (Key × D)} (hi : Γ[i]? = some (.im (.dct kvs))) (nf : noFd Γ = true) (h : dE X e (Γ.set i (.fd kvs)) fun d Γ1 => Γ1[i]? = some (.fd kvs) ∧ noFd (Γ1.set i (.im (.dct kvs))) = true ∧ P d (Γ1.set i (.im (.dct kvs)))) : dE X e Γ P := by
  refine ⟨?_⟩
  intro B σ F H Q hh hq
  obtain ⟨v, es, iv⟩ := hh.get hi
  cases iv with
  | dct rd il =>
    rename_i a vs
    rcases rd with ea | ⟨o, ea⟩
    · refine e_of (pe_lock peW) ⟨a, .dK vs, hh.ex _ _ ea, trivial, fun od => ?_⟩
      obtain ⟨ft, hf, q⟩ := hh.lock nf ea od
      have q2 := q.setF (i := i) es upd_same (il.up (up_lock ea))
      refine h _ σ _ _ _ q2 ?_
      rintro v d Γ1 F1 H1 ⟨g1, g2, r⟩ s1 h1 i1
      have eF : F1 a = some (.frz od (.dK vs)) := s1 a _ upd_same
      have hI : Is X.K F1 (.ref a) (.dct kvs) := .dct (.inr ⟨od, eF⟩) ((il.up (up_lock ea)).up (Up.of s1))
      have h1' := h1.setI (i := i) es hI
      obtain ⟨e1, e2, sf, h2⟩ := hh.unlock ea hf h1' g2
      exact ⟨e2, hq v d _ _ _ r sf h2 (i1.up (up_unlock e1))⟩
    · have q2 := hh.setF (i := i) es ea il
      refine h B σ F H Q q2 ?_
      rintro v d Γ1 F1 H1 ⟨g1, g2, r⟩ s1 h1 i1
      exact hq v d _ F1 H1 r s1 (h1.setI es (.dct (.inr ⟨o, s1 _ _ ea⟩) (il.up (Up.of s1)))) i1
theorem dN_lock {i : Nat} {kvs : List (Key × D)} (hi : Γ[i]? = some (.im (.dct kvs))) (nf : noFd Γ = true) (h : dN X e (Γ.set i (.fd kvs)) fun d Γ1 => Γ1[i]? = some (.fd kvs) ∧ noFd (Γ1.set i (.im (.dct kvs))) = true ∧ PN d (Γ1.set i (.im (.dct kvs)))) : dN X e Γ PN := by
  refine ⟨?_⟩
  intro B σ F H Q hh hq
  obtain ⟨v, es, iv⟩ := hh.get hi
  cases iv with
  | dct rd il =>
    rename_i a vs
    rcases rd with ea | ⟨o, ea⟩
    · refine e_of (pe_lock peW) ⟨a, .dK vs, hh.ex _ _ ea, trivial, fun od => ?_⟩
      obtain ⟨ft, hf, q⟩ := hh.lock nf ea od
      have q2 := q.setF (i := i) es upd_same (il.up (up_lock ea))
      refine h _ σ _ _ _ q2 ?_
      rintro p ws d Γ1 F1 H1 ⟨g1, g2, r⟩ s1 h1 hp i1
      have eF : F1 a = some (.frz od (.dK vs)) := s1 a _ upd_same
      have hI : Is X.K F1 (.ref a) (.dct kvs) := .dct (.inr ⟨od, eF⟩) ((il.up (up_lock ea)).up (Up.of s1))
      have h1' := h1.setI (i := i) es hI
      obtain ⟨e1, e2, sf, h2⟩ := hh.unlock ea hf h1' g2
      have pa : a ≠ p := ne_of_none e2 hp
      refine ⟨by rw [upd_ne pa]; exact e2, ?_⟩
      have hp2 : (upd H1 a (.dK vs)) p = none := by rw [upd_ne pa.symm]; exact hp
      have comm : upd (upd H1 p (.lst ws)) a (.dK vs) = upd (upd H1 a (.dK vs)) p (.lst ws) := by
        funext b
        by_cases z : b = a
        · subst z; rw [upd_same, upd_ne pa, upd_same]
        · by_cases y : b = p
          · subst y; rw [upd_ne z, upd_same, upd_same]
          · rw [upd_ne z, upd_ne y, upd_ne y, upd_ne z]
      rw [comm]
      exact hq p ws d _ _ _ r sf h2 hp2 (i1.up (up_unlock e1))
    · have q2 := hh.setF (i := i) es ea il
      refine h B σ F H Q q2 ?_
      rintro p ws d Γ1 F1 H1 ⟨g1, g2, r⟩ s1 h1 hp i1
      exact hq p ws d _ F1 H1 r s1 (h1.setI es (.dct (.inr ⟨o, s1 _ _ ea⟩) (il.up (Up.of s1)))) hp i1
/-- a name whose dict is locked -/
theorem dE_varF {x : Str} {i : Nat} {kvs : List (Key × D)} (hi : Γ[i]? = some (.fd kvs)) (k : P (.dct kvs) Γ) (hN : X.N[i]? = some x := by rfl)
    (hv : Vis X.env.scope x := by first | exact Or.inl rfl | exact Or.inr (Or.inl rfl) | exact Or.inr (Or.inr rfl)) (hd : (x == ("__debug__" : Str)) = false := by decide)
    (hcd : (x == ("__classdict__" : Str)) = false := by decide) : dE X (.Name x pos) Γ P := by
  refine ⟨?_⟩
  intro B σ F H Q hh hq
  obtain ⟨a, o, vs, e1, e2, il⟩ := hh.getF hi
  exact e_of (pe_var hN hv hd hcd) ⟨.ref a, e1, hq _ _ Γ F H k (.refl F) hh (.dct (.inr ⟨o, e2⟩) il)⟩
theorem IsK.at {K : PySem.W.Frag} {F : Hp} : ∀ {vs : List (Key × V)} {ds : List (Key × D)} {i : Nat} {k : Key} {v : V}, IsK K F vs ds → vs[i]? = some (k, v) → ∃ d, ds[i]? = some (k, d) ∧ Is K F v d
  | _, _, 0, _, _, .cons a _, e => by
    cases e
    exact ⟨_, rfl, a⟩
  | _, _, i + 1, _, _, .cons _ b, e => IsK.at (i := i) b e
variable {tg : Expr} {PI' : List D → Ga → Prop}
theorem dI_keys {x : Str} {i : Nat} {p : Pos} {kvs : List (Key × D)} (hi : Γ[i]? = some (.fd kvs)) (k : PI' (kvs.map fun q => kD q.1) Γ) (hN : X.N[i]? = some x := by rfl)
    (hv : Vis X.env.scope x := by first | exact Or.inl rfl | exact Or.inr (Or.inl rfl) | exact Or.inr (Or.inr rfl)) (hd : (x == ("__debug__" : Str)) = false := by decide)
    (hcd : (x == ("__classdict__" : Str)) = false := by decide) : dI X tg (.Name x p) Γ PI' := by
  refine ⟨?_⟩
  intro B σ F H R hh hq
  obtain ⟨a, o, vs, e1, e2, il⟩ := hh.getF hi
  refine i_of (pi_keys (pe_var hN hv hd hcd)) ⟨.ref a, e1, a, o, rfl, .inl ⟨vs, hh.ex _ _ e2, hq _ _ Γ F H k (.refl F) hh ?_⟩⟩
  unfold WkD
  rw [List.length_map, ← il.length]
  refine walk_keys.mono (fun H e => e _ _ e2) fun j H x H' hj g y G f1 f2 => ?_
  obtain ⟨rfl, kk, v, e3, rfl⟩ := y
  obtain ⟨d, e4, _⟩ := il.at e3
  refine ⟨kD kk, G, by simp [e4], .refl f2, ?_⟩
  cases kk with
  | inl n => exact .int n
  | inr n => exact .str n
theorem dI_values {x : Str} {i : Nat} {p ap cp : Pos} {kvs : List (Key × D)} (hi : Γ[i]? = some (.fd kvs)) (k : PI' (kvs.map (·.2)) Γ) (hN : X.N[i]? = some x := by rfl)
    (hv : Vis X.env.scope x := by first | exact Or.inl rfl | exact Or.inr (Or.inl rfl) | exact Or.inr (Or.inr rfl)) (hd : (x == ("__debug__" : Str)) = false := by decide)
    (hcd : (x == ("__classdict__" : Str)) = false := by decide) (hbase : attributeBase (.Name x p) "values" X.env (eval (.Name x p) X.env) = eval (.Name x p) X.env := by rfl) (hline : (ap.endLine == cp.line) = true := by rfl) :
    dI X tg (.Call (.Attribute (.Name x p) "values" ap) [] [] cp) Γ PI' := by
  refine ⟨?_⟩
  intro B σ F H R hh hq
  obtain ⟨a, o, vs, e1, e2, il⟩ := hh.getF hi
  refine i_of (pi_values (pe_var hN hv hd hcd) hbase hline) ⟨.ref a, e1, a, o, vs, rfl, hh.ex _ _ e2, hq _ _ Γ F H k (.refl F) hh ?_⟩
  unfold WkD
  rw [List.length_map, ← il.length]
  refine walk_values.mono (fun H e => e _ _ e2) fun j H x H' hj g y G f1 f2 => ?_
  obtain ⟨rfl, kk, e3⟩ := y
  obtain ⟨d, e4, e5⟩ := il.at e3
  exact ⟨d, G, by simp [e4], .refl f2, e5.up (Up.of f1)⟩
theorem dI_items {x : Str} {i : Nat} {p ap cp tp : Pos} {elts : List Expr} {kk : Nat} {kvs : List (Key × D)} (hi : Γ[i]? = some (.fd kvs)) (k : PI' (kvs.map fun q => D.tup [kD q.1, q.2]) Γ) (hN : X.N[i]? = some x := by rfl)
    (hv : Vis X.env.scope x := by first | exact Or.inl rfl | exact Or.inr (Or.inl rfl) | exact Or.inr (Or.inr rfl)) (hd : (x == ("__debug__" : Str)) = false := by decide)
    (hcd : (x == ("__classdict__" : Str)) = false := by decide) (hbase : attributeBase (.Name x p) "items" X.env (eval (.Name x p) X.env) = eval (.Name x p) X.env := by rfl) (hline : (ap.endLine == cp.line) = true := by rfl) :
    dI X (.Tuple elts kk tp) (.Call (.Attribute (.Name x p) "items" ap) [] [] cp) Γ PI' := by
  refine ⟨?_⟩
  intro B σ F H R hh hq
  obtain ⟨a, o, vs, e1, e2, il⟩ := hh.getF hi
  refine i_of (pi_items (pe_var hN hv hd hcd) hbase hline) ⟨.ref a, e1, a, o, vs, rfl, hh.ex _ _ e2, hq _ _ Γ F H k (.refl F) hh ?_⟩
  unfold WkD
  rw [List.length_map, ← il.length]
  refine walk_items.mono (fun H e => e _ _ e2) fun j H x H' hj g y G f1 f2 => ?_
  obtain ⟨T, x', y', rfl, hT, rfl, ex, ey⟩ := y
  have ex : Option.map (fun kv : Key × V => kV kv.fst) vs[j]? = some x' := ex
  have ey : Option.map (fun kv : Key × V => kv.2) vs[j]? = some y' := ey
  cases hz : vs[j]? with
  | none => rw [hz] at ex; cases ex
  | some q =>
    obtain ⟨q1, q2⟩ := q
    rw [hz] at ex ey
    cases ex; cases ey
    obtain ⟨d, e4, e5⟩ := il.at hz
    have ik : Is X.K G (kV q1) (kD q1) := by
      cases q1 with
      | inl n => exact .int n
      | inr n => exact .str n
    obtain ⟨F', st, iq⟩ := stp_pair f2 hT ik (e5.up (Up.of f1))
    exact ⟨_, F', by simp [e4], st, iq⟩
end
end Nd
/-! Part 6: what a def is worth, over data; calls. -/
namespace Nd
open PySem PySem.Spec L2
open PyProof.Rows hiding St
variable [Tb]

/-- a def's contract: x, what it is handed; ins, what its parameters hold; ok, what is asked; post, what it hands back and what its own parameters hold then -/
structure Ctr where
  α : Type
  ins : α → List Sl
  ok : α → Prop
  post : α → D → List Sl → Prop
def spD (K : PySem.W.Frag) (c : Ctr) : Sp := fun vs H Q _ => ∃ (x : c.α) (F : Hp) (ft : Addr → Prop), c.ok x ∧ Hold K ⟨F, H, ft⟩ (c.ins x) (vs.map some) F H ∧
  ∀ r o v F' H', c.post x r o → Same F F' → Hold K ⟨F, H, ft⟩ o (vs.map some) F' H' → Is K F' v r → Q v H'
/-- what the parameters hold in the end -/
def Outs (ins Γ' outs : List Sl) : Prop := outs.length = ins.length ∧ ∀ (i : Nat) (s : Sl), outs[i]? = some s → s = .un ∨ ∃ v o o', ins[i]? = some (.ow v o) ∧ s = .ow v o' ∧ Γ'[i]? = some s
theorem Outs.none {ins Γ' : List Sl} : Outs ins Γ' (List.replicate ins.length .un) := by
  refine ⟨List.length_replicate, fun i s e => .inl ?_⟩
  rw [List.getElem?_replicate] at e
  split at e <;> cases e
  rfl
/-- the first parameter alone is changed -/
theorem Outs.first {v : V} {o o' : O} {ins Γ' : List Sl} (h : Γ'[0]? = some (.ow v o')) : Outs (.ow v o :: ins) Γ' (.ow v o' :: List.replicate ins.length .un) := by
  refine ⟨by simp, fun i s e => ?_⟩
  cases i with
  | zero => cases e; exact .inr ⟨v, o, o', rfl, rfl, h⟩
  | succ i =>
    have e' : (List.replicate ins.length Sl.un)[i]? = some s := e
    rw [List.getElem?_replicate] at e'
    split at e' <;> cases e'
    exact .inl rfl
theorem Hold.ow_val {K : PySem.W.Frag} {B : Bs} {Γ : List Sl} {σ : St} {F H : Hp} {i : Nat} {v : V} {o : O} (h : Hold K B Γ σ F H) (e : Γ[i]? = some (.ow v o)) : σ[i]? = some (some v) := by
  obtain ⟨fp, S⟩ := h.sl
  obtain ⟨x, e1, e2⟩ := S.r i _ e
  generalize fp i = as at e2
  cases e2
  exact e1
theorem Hold.outs {K : PySem.W.Frag} {B B' : Bs} {ins Γ' outs : List Sl} {σ : St} {vs : List V} {F H F' H' : Hp} (h0 : Hold K B' ins (vs.map some) F H) (h : Hold K B Γ' σ F' H') (ho : Outs ins Γ' outs) : Hold K B outs (vs.map some) F' H' := by
  obtain ⟨fp, S⟩ := h.sl
  have hl : (vs.map some).length = outs.length := h0.len.trans ho.1.symm
  let g : Nat → List Addr := fun i => match outs[i]? with
    | some (.ow _ _) => fp i
    | _ => []
  have gi : ∀ {i : Nat} {a : Addr}, a ∈ g i → a ∈ fp i := by
    intro i a m
    have m' : a ∈ (match outs[i]? with
      | some (.ow _ _) => fp i
      | _ => []) := m
    split at m'
    · exact m'
    · cases m'
  refine ⟨hl, ⟨g, fun i s e => ?_, fun i => ?_, fun i j a m n => S.ap i j a (gi m) (gi n), fun i a m => S.ok i a (gi m), fun i a u m => S.pl i a u (gi m)⟩, h.ex, h.ff, h.nw, h.fr, h.tb⟩
  · have hi : i < (vs.map some).length := by rw [hl]; exact (List.getElem?_eq_some_iff.mp e).1
    rcases ho.2 i s e with rfl | ⟨v, o, o', e1, rfl, e2⟩
    · refine ⟨_, List.getElem?_eq_getElem hi, ?_⟩
      have : g i = [] := by show (match outs[i]? with | some (.ow _ _) => fp i | _ => []) = []; rw [e]
      rw [this]; exact .un
    · refine ⟨some v, h0.ow_val e1, ?_⟩
      obtain ⟨x, e3, e4⟩ := S.r i _ e2
      have : g i = fp i := by show (match outs[i]? with | some (.ow _ _) => fp i | _ => []) = fp i; rw [e]
      rw [this]
      rw [h.ow_val e2] at e3
      cases e3
      exact e4
  · show (match outs[i]? with | some (.ow _ _) => fp i | _ => []).Nodup
    split
    · exact S.nd i
    · exact List.nodup_nil
theorem hold_more {K : PySem.W.Frag} {B : Bs} {ins : List Sl} {σ : St} {F H : Hp} (h : Hold K B ins σ F H) (n : Nat) : Hold K B (ins ++ List.replicate n .un) (σ ++ List.replicate n none) F H := by
  obtain ⟨fp, S⟩ := h.sl
  let g : Nat → List Addr := fun i => if i < ins.length then fp i else []
  have gi : ∀ {i : Nat} {a : Addr}, a ∈ g i → a ∈ fp i := by
    intro i a m
    have m' : a ∈ (if i < ins.length then fp i else []) := m
    split at m'
    · exact m'
    · cases m'
  refine ⟨by rw [List.length_append, List.length_append, List.length_replicate, List.length_replicate, h.len], ⟨g, fun i s e => ?_, fun i => ?_, fun i j a m n => S.ap i j a (gi m) (gi n), fun i a m => S.ok i a (gi m), fun i a u m => S.pl i a u (gi m)⟩, h.ex, h.ff, h.nw, h.fr, h.tb⟩
  · by_cases hi : i < ins.length
    · rw [List.getElem?_append_left hi] at e
      obtain ⟨x, e1, e2⟩ := S.r i s e
      refine ⟨x, by rw [List.getElem?_append_left (by rw [h.len]; exact hi)]; exact e1, ?_⟩
      show SlR K F H s x (if i < ins.length then fp i else [])
      rw [if_pos hi]; exact e2
    · rw [List.getElem?_append_right (by omega), List.getElem?_replicate] at e
      split at e
      · rename_i hj
        cases e
        refine ⟨none, ?_, ?_⟩
        · rw [List.getElem?_append_right (by rw [h.len]; omega), List.getElem?_replicate, h.len, if_pos hj]
        · show SlR K F H .un none (if i < ins.length then fp i else [])
          rw [if_neg hi]; exact .un
      · cases e
  · show (if i < ins.length then fp i else []).Nodup
    split
    · exact S.nd i
    · exact List.nodup_nil

section
variable {P : Program} {w : World} {K : PySem.W.Frag} {mg : Str → Option Value} {base : Heap} {k : Nat} {f : Addr} {fd : FuncData} {ps N : List Str}
/-- the context of a def's body, nothing raised -/
abbrev bodyX (P : Program) (w : World) (K : PySem.W.Frag) (mg : Str → Option Value) (base : Heap) (N : List Str) (qual : Str) (scope : Scope) (f : Addr) (cdv : Value) (A : Around) (out : List Env) (s : Shared) (H : Hp) (E : XK) : Cx :=
  (cxOf CX0 P w K mg base N qual scope f cdv A out s H E).nox
abbrev ouOf (c : Ctr) (x : c.α) : Ou := { nx := fun Γ' => ∃ o, Outs (c.ins x) Γ' o ∧ c.post x .non o, rt := fun d Γ' => ∃ o, Outs (c.ins x) Γ' o ∧ c.post x d o }
theorem fnD {c : Ctr} {x qual : Str} {st : Stmt} (F : Fun K x qual st f fd) (S : FnScope N ps (defScope st)) (hl : ∀ x, (c.ins x).length = ps.length)
    (hb : ∀ (cdv : Value) (A : Around) (out : List Env) (s : Shared) (H : Hp) (E : XK), Room k (A.deeper (envOfC qual (defScope st) s.heap.objs.size f cdv)) →
      (A.deeper (envOfC qual (defScope st) s.heap.objs.size f cdv)).guards = some [] → ∀ x : c.α, c.ok x →
      dSs (bodyX P w K mg base N qual (defScope st) f cdv A out s H E) (defBody st) (c.ins x ++ List.replicate (N.length - ps.length) .un) (ouOf c x)) :
    FnG P w K mg base CX0 (k + 1) f fd ps (spD K c) := by
  refine fnG_body F S (fun vs H Q E h => ?_) fun cdv A out s H vs Q E hr hg h => ?_
  · obtain ⟨x, F', ft, _, hh, _⟩ := h
    have := hh.len
    rw [List.length_map] at this
    rw [this, hl x]
  · obtain ⟨x, G, ft, ox, hh, hq⟩ := h
    have hv : vs.length = ps.length := by
      have := hh.len
      rw [List.length_map] at this
      rw [this, hl x]
    refine ⟨_, (pssW (X := bodyX P w K mg base N qual (defScope st) f cdv A out s H E)).nox, ?_⟩
    have es : L2.start N vs = vs.map some ++ List.replicate (N.length - ps.length) none := by
      unfold L2.start
      rw [hv]
    rw [es]
    have h2 := hold_more hh (N.length - ps.length)
    refine hb cdv A out s H E hr hg x ox ⟨G, H, ft⟩ _ G H _ h2 ⟨?_, ?_, fun _ _ _ _ z => z.elim, fun _ _ _ _ z => z.elim, fun _ _ _ _ _ _ _ z => z.elim⟩
    · rintro σ' Γ' F' H' ⟨o, ho, po⟩ sf h'
      exact hq .non o .non F' H' po sf (hh.outs h' ho) .non
    · rintro v d σ' Γ' F' H' ⟨o, ho, po⟩ sf h' iv
      exact hq d o v F' H' po sf (hh.outs h' ho) iv
/-- a contract of a def that gives a new list -/
structure CtN where
  α : Type
  ins : α → List Sl
  ok : α → Prop
  post : α → List D → List Sl → Prop
def spN (K : PySem.W.Frag) (c : CtN) : Sp := fun vs H Q _ => ∃ (x : c.α) (F : Hp) (ft : Addr → Prop), c.ok x ∧ Hold K ⟨F, H, ft⟩ (c.ins x) (vs.map some) F H ∧
  ∀ ds o p us F' H', c.post x ds o → Same F F' → Hold K ⟨F, H, ft⟩ o (vs.map some) F' H' → H' p = none → IsL K F' us ds → Q (.ref p) (upd H' p (.lst us))
abbrev ouN (c : CtN) (x : c.α) : Ou := { nx := fun _ => False, rt := fun _ _ => False, rn := fun ds Γ' => ∃ o, Outs (c.ins x) Γ' o ∧ c.post x ds o }
theorem fnN {c : CtN} {x qual : Str} {st : Stmt} (F : Fun K x qual st f fd) (S : FnScope N ps (defScope st)) (hl : ∀ x, (c.ins x).length = ps.length)
    (hb : ∀ (cdv : Value) (A : Around) (out : List Env) (s : Shared) (H : Hp) (E : XK), Room k (A.deeper (envOfC qual (defScope st) s.heap.objs.size f cdv)) →
      (A.deeper (envOfC qual (defScope st) s.heap.objs.size f cdv)).guards = some [] → ∀ x : c.α, c.ok x →
      dSs (bodyX P w K mg base N qual (defScope st) f cdv A out s H E) (defBody st) (c.ins x ++ List.replicate (N.length - ps.length) .un) (ouN c x)) :
    FnG P w K mg base CX0 (k + 1) f fd ps (spN K c) := by
  refine fnG_body F S (fun vs H Q E h => ?_) fun cdv A out s H vs Q E hr hg h => ?_
  · obtain ⟨x, F', ft, _, hh, _⟩ := h
    have := hh.len
    rw [List.length_map] at this
    rw [this, hl x]
  · obtain ⟨x, G, ft, ox, hh, hq⟩ := h
    have hv : vs.length = ps.length := by
      have := hh.len
      rw [List.length_map] at this
      rw [this, hl x]
    refine ⟨_, (pssW (X := bodyX P w K mg base N qual (defScope st) f cdv A out s H E)).nox, ?_⟩
    have es : L2.start N vs = vs.map some ++ List.replicate (N.length - ps.length) none := by
      unfold L2.start
      rw [hv]
    rw [es]
    have h2 := hold_more hh (N.length - ps.length)
    refine hb cdv A out s H E hr hg x ox ⟨G, H, ft⟩ _ G H _ h2 ⟨fun _ _ _ _ z => z.elim, fun _ _ _ _ _ _ z => z.elim, fun _ _ _ _ z => z.elim, fun _ _ _ _ z => z.elim, ?_⟩
    rintro p us ds σ' Γ' F' H' ⟨o, ho, po⟩ sf h' hp il
    exact hq ds o p us F' H' po sf (hh.outs h' ho) hp il
end

section
variable {X : Cx} {c : Ctr} {k : Nat} {f : Addr} {fd : FuncData} {ps : List Str} {x : Str} {p pos : Pos} {e : Expr} {es : List Expr} {Γ : Ga} {P : D → Ga → Prop}
theorem hold_args {K : PySem.W.Frag} {F H : Hp} {vs : List V} {ds : List D} (ex : Same F H) (tb : Tbs H) (il : IsL K F vs ds) : Hold K ⟨F, H, fun _ => False⟩ (ds.map Sl.im) (vs.map some) F H := by
  refine ⟨by rw [List.length_map, List.length_map, il.length], ⟨fun _ => [], fun i s e => ?_, fun _ => List.nodup_nil, fun _ _ _ m _ => (List.not_mem_nil m).elim, fun _ _ m => (List.not_mem_nil m).elim, fun _ _ _ m => (List.not_mem_nil m).elim⟩, ex, .refl F, fun _ _ h => .inl h, fun _ _ h _ => .inl h, tb⟩
  rw [List.getElem?_map] at e
  cases hz : ds[i]? with
  | none => rw [hz] at e; cases e
  | some d =>
    rw [hz] at e
    cases e
    obtain ⟨v, e1, e2⟩ := il.get hz
    exact ⟨some v, by rw [List.getElem?_map, e1]; rfl, .im e2⟩
theorem stp_of_call {K : PySem.W.Frag} {F H F' H' : Hp} {o : List Sl} {σ : St} (sf : Same F F') (q : Hold K ⟨F, H, fun _ => False⟩ o σ F' H') : Stp F H F' H' := by
  refine ⟨sf, q.ex, fun a u z => q.fr a u z id, fun a u z => ?_, fun _ => q.tb⟩
  rcases q.nw a u z with w | w | w
  · exact .inl w
  · exact .inr w
  · exact w.elim
/-- f(e, ..), data alone -/
theorem dE_call (G : FnG X.prog X.w X.K X.mg X.base CX0 k f fd ps (spD X.K c)) (hr : Room k X.A) (hgd : X.A.guards = some []) (hm : X.mg x = some (.ref f)) (hk : PySem.W.keepIn X.K (.ref f) = true) (hb : Binds X.K fd ps [])
    (h : dA X (e :: es) Γ fun as Γ1 => ∃ (ds : List D) (y : c.α), as = ds.map Ar.d ∧ c.ins y = ds.map Sl.im ∧ c.ok y ∧ ∀ r o, c.post y r o → P r Γ1) (hg : Gl X x := by rfl) (hdb : (x == ("__debug__" : Str)) = false := by decide)
    (he : starEach (e :: es) X.env = (false, eval e X.env) :: starEach es X.env := by rfl) (hpl : (backTo pos (starEach es X.env)).any (·.1) = false := by rfl) : dE X (.Call (.Name x p) (e :: es) [] pos) Γ P := by
  refine ⟨?_⟩
  intro B σ F H Q hh hq
  refine e_of (pe_callG G hr hgd hg hm hk hb .nil pass0 paW hdb he hpl) (h B σ F H _ hh ?_)
  rintro vs as Γ1 F1 H1 ⟨ds, y, rfl, hi, ho, hp⟩ s1 h1 ar
  rw [List.append_nil]
  refine ⟨y, F1, fun _ => False, ho, by rw [hi]; exact hold_args h1.ex h1.tb ar.isL, ?_⟩
  intro r o v F' H' po sf q iv
  have st := stp_of_call sf q
  exact hq v r Γ1 F' H' (hp r o po) (s1.trans sf) (h1.stp st) iv
theorem dN_call {c : CtN} {PN : List D → Ga → Prop} (G : FnG X.prog X.w X.K X.mg X.base CX0 k f fd ps (spN X.K c)) (hr : Room k X.A) (hgd : X.A.guards = some []) (hm : X.mg x = some (.ref f)) (hk : PySem.W.keepIn X.K (.ref f) = true) (hb : Binds X.K fd ps [])
    (h : dA X (e :: es) Γ fun as Γ1 => ∃ (ds : List D) (y : c.α), as = ds.map Ar.d ∧ c.ins y = ds.map Sl.im ∧ c.ok y ∧ ∀ r o, c.post y r o → PN r Γ1) (hg : Gl X x := by rfl) (hdb : (x == ("__debug__" : Str)) = false := by decide)
    (he : starEach (e :: es) X.env = (false, eval e X.env) :: starEach es X.env := by rfl) (hpl : (backTo pos (starEach es X.env)).any (·.1) = false := by rfl) : dN X (.Call (.Name x p) (e :: es) [] pos) Γ PN := by
  refine ⟨?_⟩
  intro B σ F H Q hh hq
  refine e_of (pe_callG G hr hgd hg hm hk hb .nil pass0 paW hdb he hpl) (h B σ F H _ hh ?_)
  rintro vs as Γ1 F1 H1 ⟨ds, y, rfl, hi, ho, hp⟩ s1 h1 ar
  rw [List.append_nil]
  refine ⟨y, F1, fun _ => False, ho, by rw [hi]; exact hold_args h1.ex h1.tb ar.isL, ?_⟩
  intro r o q us F' H' po sf qh hn il
  exact hq q us r Γ1 F' H' (hp r o po) (s1.trans sf) (h1.stp (stp_of_call sf qh)) hn il
theorem dE_call0 (G : FnG X.prog X.w X.K X.mg X.base CX0 k f fd ps (spD X.K c)) (hr : Room k X.A) (hgd : X.A.guards = some []) (hm : X.mg x = some (.ref f)) (hk : PySem.W.keepIn X.K (.ref f) = true) (hb : Binds X.K fd ps [])
    (y : c.α) (hi : c.ins y = []) (ho : c.ok y) (hp : ∀ r o, c.post y r o → P r Γ) (hg : Gl X x := by rfl) (hdb : (x == ("__debug__" : Str)) = false := by decide) : dE X (.Call (.Name x p) [] [] pos) Γ P := by
  refine ⟨?_⟩
  intro B σ F H Q hh hq
  refine e_of (pe_callG0 G hr hgd hg hm hk hb .nil pass0 hdb) ⟨y, F, fun _ => False, ho, by rw [hi]; exact hold_args (ds := []) hh.ex hh.tb .nil, ?_⟩
  intro r o v F' H' po sf q iv
  exact hq v r Γ F' H' (hp r o po) sf (hh.stp (stp_of_call sf q)) iv
/-- f(xs, e, ..), xs held by its name alone, may be changed -/
theorem dE_callO (G : FnG X.prog X.w X.K X.mg X.base CX0 k f fd ps (spD X.K c)) (hr : Room k X.A) (hgd : X.A.guards = some []) (hm : X.mg x = some (.ref f)) (hk : PySem.W.keepIn X.K (.ref f) = true) (hb : Binds X.K fd ps [])
    (h : dA X (e :: es) Γ fun as Γ1 => ∃ (i : Nat) (ds : List D) (y : c.α) (v : V) (t : O), as = .s i :: ds.map Ar.d ∧ Γ1[i]? = some (.ow v t) ∧ c.ins y = .ow v t :: ds.map Sl.im ∧ c.ok y ∧ ∀ r o, c.post y r o → ∃ t' os, o = .ow v t' :: os ∧ P r (Γ1.set i (.ow v t')))
    (hg : Gl X x := by rfl) (hdb : (x == ("__debug__" : Str)) = false := by decide)
    (he : starEach (e :: es) X.env = (false, eval e X.env) :: starEach es X.env := by rfl) (hpl : (backTo pos (starEach es X.env)).any (·.1) = false := by rfl) : dE X (.Call (.Name x p) (e :: es) [] pos) Γ P := by
  refine ⟨?_⟩
  intro B σ F H Q hh hq
  refine e_of (pe_callG G hr hgd hg hm hk hb .nil pass0 paW hdb he hpl) (h B σ F H _ hh ?_)
  rintro us as Γ1 F1 H1 ⟨i, ds, y, v, t, rfl, gi, hi, ho, hp⟩ s1 h1 ar
  rw [List.append_nil]
  have ev := h1.ow_val gi
  cases ar with
  | s e1 ar =>
    rw [ev] at e1
    cases e1
    have il := ar.isL
    rename_i ws
    obtain ⟨fp, S⟩ := h1.sl
    obtain ⟨z, ez, rz⟩ := S.r i _ gi
    rw [ev] at ez
    cases ez
    let g : Nat → List Addr := fun j => if j = 0 then fp i else []
    have g0 : g 0 = fp i := if_pos rfl
    have gs : ∀ {j : Nat} {a : Addr}, a ∈ g j → j = 0 ∧ a ∈ fp i := by
      intro j a m
      have m' : a ∈ (if j = 0 then fp i else []) := m
      by_cases z : j = 0
      · rw [if_pos z] at m'; exact ⟨z, m'⟩
      · rw [if_neg z] at m'; cases m'
    have hA := hold_args h1.ex h1.tb il
    have hold0 : Hold X.K ⟨F1, H1, fun a => a ∈ fp i⟩ (.ow v t :: ds.map Sl.im) ((v :: ws).map some) F1 H1 := by
      refine ⟨by simp [il.length], ⟨g, fun j s e => ?_, fun j => ?_, fun j l a m n => ?_, fun j a m => ?_, fun j a u m => S.pl i a u (gs m).2⟩, h1.ex, .refl F1, fun _ _ h => .inl h, fun _ _ h _ => .inl h, h1.tb⟩
      · cases j with
        | zero => cases e; exact ⟨some v, rfl, by rw [g0]; exact rz⟩
        | succ j =>
          have e' : (ds.map Sl.im)[j]? = some s := e
          obtain ⟨fp', S'⟩ := hA.sl
          rw [List.getElem?_map] at e'
          cases hz : ds[j]? with
          | none => rw [hz] at e'; cases e'
          | some d =>
            rw [hz] at e'
            cases e'
            obtain ⟨u, e1, e2⟩ := il.get hz
            exact ⟨some u, by show (ws.map some)[j]? = _; rw [List.getElem?_map, e1]; rfl, .im e2⟩
      · show (if j = 0 then fp i else []).Nodup
        split
        · exact S.nd i
        · exact List.nodup_nil
      · rw [(gs m).1, (gs n).1]
      · obtain ⟨n1, n2, _⟩ := S.ok i a (gs m).2
        exact ⟨n1, n2, .inl (gs m).2⟩
    refine ⟨y, F1, fun a => a ∈ fp i, ho, by rw [hi]; exact hold0, ?_⟩
    intro r o u F' H' po sf q iv
    obtain ⟨t', os, rfl, pp⟩ := hp r o po
    obtain ⟨fq, T⟩ := q.sl
    obtain ⟨x0, ex0, rx0⟩ := T.r 0 _ rfl
    cases (show some (some v) = some x0 from ex0)
    have T0 : ∀ a, a ∈ fq 0 → a ∈ fp i ∨ H1 a = none := fun a m => (T.ok 0 a m).2.2
    refine hq u r _ F' H' pp (s1.trans sf) ⟨by rw [List.length_set]; exact h1.len, ⟨pf fp i (fq 0), ?_⟩, q.ex, h1.ff.trans sf, fun a o z => ?_, fun a o z w => ?_, q.tb⟩ iv
    · have U := S.put (F' := F') (H' := H') (i := i) (s := .ow v t') (x := some v) (as := fq 0) h1.len rx0 (T.nd 0) (fun a m => ?_) (fun a m => ?_) sf (fun j a u hj m z => ?_) (fun j a hj m => ?_) (fun a u m z => T.pl 0 a u m z)
      · rw [set_self ev] at U
        exact U
      · rcases T0 a m with z | z
        · exact .inl z
        · exact .inr fun j n => (S.ok j a n).2.1 z
      · obtain ⟨n1, n2, _⟩ := T.ok 0 a m
        refine ⟨n1, n2, ?_⟩
        rcases T0 a m with z | z
        · exact (S.ok i a z).2.2
        · exact (h1.fresh z).symm
      · exact q.frE z (fun w => hj (S.ap j i a m w)) (S.pl j a u m z)
      · cases z : F' a with
        | none => rfl
        | some o =>
          rcases q.nw a o z with w | w | w
          · exact absurd (show F1 a = some o from w) (by rw [(S.ok j a m).1]; exact nofun)
          · exact absurd w (S.ok j a m).2.1
          · exact absurd (S.ap j i a m w) hj
    · rcases q.nw a o z with w | w | w
      · exact h1.nw a o w
      · exact .inr (h1.fresh w)
      · exact .inr (S.ok i a w).2.2.symm
    · have nf : ¬ a ∈ fp i := fun m => by
        rcases (S.ok i a m).2.2 with y | y
        · exact w y
        · rw [z] at y; cases y
      rcases h1.fr a o z w with y | ⟨y, ps, x⟩
      · exact q.fr a o y nf
      · rcases q.fr a _ x nf with v | ⟨_, v⟩
        · exact .inr ⟨y, ps, v⟩
        · exact .inr ⟨y, v⟩

/-! ### keywords alone -/
def wK (X : Cx) (kws : List Keyword) : TA := fun σ H Q => ∀ pos pins s, Inv X pins σ H s → wpAny (model X.prog X.w) X.A (evalAll ((backToKw pos (keywordEach kws X.env)).map (·.2))) (AP X pins σ Q) X.xe s
theorem pkW {kws : List Keyword} : PK X kws (wK X kws) := ⟨fun pos pins s σ H Q I h => h pos pins s I⟩
structure dK (X : Cx) (kws : List Keyword) (Γ : Ga) (P : List D → Ga → Prop) : Prop where
  run : ∀ B σ F H (Q : List V → Hp → Prop), Hold X.K B Γ σ F H →
  (∀ vs ds Γ' F' H', P ds Γ' → Same F F' → Hold X.K B Γ' σ F' H' → IsL X.K F' vs ds → Q vs H') → wK X kws σ H Q
instance {X : Cx} {kws : List Keyword} {Γ : Ga} {P : List D → Ga → Prop} : CoeFun (dK X kws Γ P) fun _ => (∀ B σ F H (Q : List V → Hp → Prop), Hold X.K B Γ σ F H →
  (∀ vs ds Γ' F' H', P ds Γ' → Same F F' → Hold X.K B Γ' σ F' H' → IsL X.K F' vs ds → Q vs H') → wK X kws σ H Q) := ⟨fun h => h.run⟩
theorem dK_nil {R : List D → Ga → Prop} (k : R [] Γ) : dK X [] Γ R := .mk fun B σ F H Q hh hq pos pins s I => pk_nil.run pos pins s σ H Q I (hq [] [] Γ F H k (.refl F) hh .nil)
theorem dK_cons {R : List D → Ga → Prop} {kws : List Keyword} {nm : Option Str} {kp : Pos} (h : dE X e Γ fun d Γ1 => dK X kws Γ1 fun ds Γ2 => R (d :: ds) Γ2) : dK X (⟨nm, e, kp⟩ :: kws) Γ R := by
  refine ⟨?_⟩
  intro B σ F H Q hh hq pos pins s I
  refine (pk_cons peW pkW).run pos pins s σ H Q I (h B σ F H _ hh ?_)
  intro v d Γ1 F1 H1 r s1 h1 i1
  exact r B σ F1 H1 _ h1 fun vs ds Γ2 F2 H2 p s2 h2 il => hq (v :: vs) (d :: ds) Γ2 F2 H2 p (s1.trans s2) h2 (.cons (i1.up (Up.of s2)) il)
/-- values put in another order -/
def turnBy {α : Type} (d : α) (perm : List Nat) (zs : List α) : List α := perm.map fun i => zs.getD i d
theorem turnBy_isL {K : PySem.W.Frag} {F : Hp} {vs : List V} {ds : List D} (il : IsL K F vs ds) : ∀ perm : List Nat, IsL K F (turnBy .non perm vs) (turnBy .non perm ds)
  | [] => .nil
  | i :: perm => by
    refine .cons ?_ (turnBy_isL il perm)
    cases hz : ds[i]? with
    | none =>
      have hl : ds.length ≤ i := List.getElem?_eq_none_iff.mp hz
      have e1 : vs.getD i .non = .non := by simp [List.getD, List.getElem?_eq_none_iff.mpr (show vs.length ≤ i by rw [il.length]; exact hl)]
      have e2 : ds.getD i .non = .non := by simp [List.getD, hz]
      show Is K F (vs.getD i .non) (ds.getD i .non)
      rw [e1, e2]
      exact .non
    | some d =>
      obtain ⟨v, e1, e2⟩ := il.get hz
      show Is K F (vs.getD i .non) (ds.getD i .non)
      simp only [List.getD, e1, hz, Option.getD_some]
      exact e2
theorem turnBy_vals {vs : List V} {us : List Value} (r : Vals vs us) : ∀ perm : List Nat, Vals (turnBy .non perm vs) (turnBy .none perm us)
  | [] => .nil
  | i :: perm => by
    refine .cons ?_ (turnBy_vals r perm)
    show RelV (vs.getD i .non) (us.getD i .none)
    cases hz : vs[i]? with
    | none => simp only [List.getD, hz, r.none_of hz, Option.getD_none]; rfl
    | some v =>
      obtain ⟨u, e1, e2⟩ := r.get hz
      simp only [List.getD, hz, e1, Option.getD_some]
      exact e2
theorem kbn_of {K : PySem.W.Frag} {fd : FuncData} {ps ks : List Str} (perm : List Nat) (h : ∀ ws : List Value, ws.length = ks.length → bindArgs fd ⟨[], ks.zip ws⟩ = pure (ps.zip (turnBy .none perm ws))) :
    KBn K fd ps 0 ks (fun _ ws => turnBy .none perm ws) (fun _ zs => turnBy .non perm zs) :=
  ⟨fun s us ws _ l1 l2 => by
    cases us with
    | nil => exact .of_eq (h ws l2)
    | cons a b => exact absurd l1 (by simp), fun _ r => turnBy_vals r perm⟩
theorem dE_callK {kws : List Keyword} {ks : List Str} (perm : List Nat) (G : FnG X.prog X.w X.K X.mg X.base CX0 k f fd ps (spD X.K c)) (hr : Room k X.A) (hgd : X.A.guards = some []) (hm : X.mg x = some (.ref f)) (hk : PySem.W.keepIn X.K (.ref f) = true)
    (hb : KBn X.K fd ps 0 ks (fun _ ws => turnBy .none perm ws) (fun _ zs => turnBy .non perm zs))
    (h : dK X kws Γ fun ds Γ1 => ds.length = ks.length ∧ ∃ y : c.α, c.ins y = (turnBy .non perm ds).map Sl.im ∧ c.ok y ∧ ∀ r o, c.post y r o → P r Γ1) (hg : Gl X x := by rfl)
    (hall : (backToKw pos (keywordEach kws X.env)).all (·.1.isSome) = true := by rfl)
    (hks : (backToKw pos (keywordEach kws X.env)).filterMap (·.1) = ks := by rfl) (hdb : (x == ("__debug__" : Str)) = false := by decide)
    (hpl : ((backTo pos (starEach [] X.env)).any (·.1) || (backToKw pos (keywordEach kws X.env)).any (·.1.isNone)) = false := by rfl) : dE X (.Call (.Name x p) [] kws pos) Γ P := by
  refine ⟨?_⟩
  intro B σ F H Q hh hq
  refine e_of (pe_callGK G hr hgd hg hm hk hb pass0 pkW hall hks hdb hpl) (h B σ F H _ hh ?_)
  rintro vs ds Γ1 F1 H1 ⟨hl, y, hi, ho, hp⟩ s1 h1 il
  refine ⟨rfl, by rw [il.length]; exact hl, y, F1, fun _ => False, ho, by rw [hi]; exact hold_args h1.ex h1.tb (turnBy_isL il perm), ?_⟩
  intro r o v F' H' po sf q iv
  exact hq v r Γ1 F' H' (hp r o po) (s1.trans sf) (h1.stp (stp_of_call sf q)) iv
end
end Nd
/-! Part 7: built-ins over data. -/
namespace Nd
open PySem PySem.Spec L2
open PyProof.Rows hiding St
variable [Tb]

mutual
def D.py : D → PyData
  | .non => .none
  | .bl b => .bool b
  | .int i => .int i
  | .str s => .str s
  | .lst xs => .list (D.pys xs)
  | .fls xs => .list (D.pys xs)
  | .tup xs => .tuple (D.pys xs)
  | .dct kvs => .dict (D.pyk kvs)
  | .ins _ _ => .none
  | .fn _ _ _ _ => .none
def D.pys : List D → List PyData
  | [] => []
  | x :: xs => x.py :: D.pys xs
def D.pyk : List (Key × D) → List (PyData × PyData)
  | [] => []
  | (k, x) :: xs => ((match k with | .inl i => .int i | .inr s => .str s), x.py) :: D.pyk xs
end
mutual
/-- no dict in it -/
def D.nod : D → Bool
  | .lst xs => D.nods xs
  | .fls xs => D.nods xs
  | .tup xs => D.nods xs
  | .dct _ => false
  | .ins _ _ => false
  | .fn _ _ _ _ => false
  | _ => true
def D.nods : List D → Bool
  | [] => true
  | x :: xs => x.nod && D.nods xs
end
def D.flat : D → Bool
  | .non => true | .bl _ => true | .int _ => true | .str _ => true | _ => false

section
variable {X : Cx} {pins : List (Addr × Obj)} {σ : St} {F H : Hp} {s : Shared}
mutual
theorem Is.reads (I : Inv X pins σ H s) (ex : Same F H) : ∀ {v : V} {d : D} {u : Value}, Is X.K F v d → d.nod = true → RelV v u → ∃ as, Reads s.heap u d.py as
  | _, _, u, .non, _, r => by cases r; exact ⟨_, .none⟩
  | _, _, u, .bl b, _, r => by cases r; exact ⟨_, .bool b⟩
  | _, _, u, .int i, _, r => by obtain ⟨t, rfl⟩ := r; exact ⟨_, .int i t⟩
  | _, _, u, .str x, _, r => by obtain ⟨t, rfl⟩ := r; exact ⟨_, .str x t⟩
  | _, _, u, .lst e l, h, r => by
    cases r
    obtain ⟨its, rv, ⟨o, n, ho, hc, _, hd⟩, _⟩ := I.list (SqL.of (ex _ _ e))
    obtain ⟨as, q⟩ := IsL.reads I ex l (by simpa only [D.nod] using h) rv
    exact ⟨_, .list ho hc hd q⟩
  | _, _, u, .fls e l, h, r => by
    cases r
    obtain ⟨its, rv, ⟨o, n, ho, hc, _, hd⟩, _⟩ := I.list (sql_up (Up.of ex) e)
    obtain ⟨as, q⟩ := IsL.reads I ex l (by simpa only [D.nod] using h) rv
    exact ⟨_, .list ho hc hd q⟩
  | _, _, u, .tup e l, h, r => by
    cases r
    obtain ⟨its, rv, ⟨o, ho, hc, n, hd⟩, _⟩ := I.tuple (sqt_up (Up.of ex) e)
    obtain ⟨as, q⟩ := IsL.reads I ex l (by simpa only [D.nod] using h) rv
    exact ⟨_, .tuple ho hc hd q⟩
  | _, _, u, .dct e l, h, r => by simp only [D.nod] at h; cases h
  | _, _, u, .ins e l, h, r => by simp only [D.nod] at h; cases h
  | _, _, u, .fn e, h, r => by simp only [D.nod] at h; cases h
theorem IsL.reads (I : Inv X pins σ H s) (ex : Same F H) : ∀ {vs : List V} {ds : List D} {us : List Value}, IsL X.K F vs ds → D.nods ds = true → Vals vs us → ∃ as, ReadsAll s.heap us (D.pys ds) as
  | _, _, _, .nil, _, r => by cases r; exact ⟨_, .nil⟩
  | _, _, _, .cons a b, h, r => by
    simp only [D.nods, Bool.and_eq_true] at h
    cases r with
    | cons r1 r2 =>
      obtain ⟨as, q1⟩ := Is.reads I ex a h.1 r1
      obtain ⟨bs, q2⟩ := IsL.reads I ex b h.2 r2
      exact ⟨_, .cons q1 q2⟩
end
theorem flat_reads {v : V} {d : D} {u : Value} (h : Is X.K F v d) (hf : d.flat = true) (r : RelV v u) : Reads s.heap u d.py [] := by
  cases h with
  | non => cases r; exact .none
  | bl b => cases r; exact .bool b
  | int i => obtain ⟨t, rfl⟩ := r; exact .int i t
  | str x => obtain ⟨t, rfl⟩ := r; exact .str x t
  | _ => cases hf
theorem keyRd {P : Program} {w : World} : ∀ {es : List DictEntry} {vs : List (Key × Value)} {kv : List (Key × V)} {ds : List (Key × D)}, Pairs (mixKind P w) es vs → KV kv vs → IsK X.K F kv ds → ds.all (fun q => q.2.flat) = true →
    ReadsAll s.heap (es.map (·.key)) ((D.pyk ds).map (·.1)) [] ∧ ReadsAll s.heap (es.map (·.val)) ((D.pyk ds).map (·.2)) []
  | _, _, _, _, .nil, hk, hi, _ => by
    cases hk
    cases hi
    exact ⟨.nil, .nil⟩
  | _, _, _, _, .cons k v p, hk, hi, hf => by
    cases hk with
    | cons k1 k2 => cases hi with
      | cons i1 i2 =>
        rw [List.all_cons, Bool.and_eq_true] at hf
        obtain ⟨q1, q2⟩ := keyRd p k2 i2 hf.2
        obtain ⟨e1, r1⟩ := k1
        have e1 := e1.symm
        dsimp only at e1
        rw [e1] at k
        constructor
        · refine ReadsAll.cons (as := []) (bs := []) ?_ q1
          rcases keyIs_shape k with ⟨i, t, ek, ev⟩ | ⟨x, t, ek, ev⟩
          · dsimp only; rw [ev, ek]; exact .int i t
          · dsimp only; rw [ev, ek]; exact .str x t
        · refine ReadsAll.cons (as := []) (bs := []) ?_ q2
          dsimp only
          rw [v]
          exact flat_reads i1 hf.1 r1
/-- a dict of flat things -/
theorem Is.readsD (I : Inv X pins σ H s) (ex : Same F H) {v : V} {kvs : List (Key × D)} {u : Value} (h : Is X.K F v (.dct kvs)) (hf : kvs.all (fun q => q.2.flat) = true) (r : RelV v u) :
    ∃ a, u = .ref a ∧ a ≠ sysModules ∧ Reads s.heap u (D.py (.dct kvs)) [a] := by
  obtain ⟨a, vs, rfl, rd, il⟩ := h.dk ex
  cases r
  obtain ⟨_, hs, ws, kv, o, es, ep, ho, hx, hd, _, hp, _⟩ := dk_rd I.hok rd
  obtain ⟨q1, q2⟩ := keyRd (X := X) (s := s) hp kv il hf
  exact ⟨a, rfl, beq_eq_false_iff_ne.mp hs, by simp only [D.py]; exact Reads.dict (as := []) (bs := []) ho hx.1 hd q1 q2⟩
end

section
variable {X : Cx} {a b c e : Expr} {es : List Expr} {p pos : Pos} {Γ : Ga} {P : D → Ga → Prop} {PN : List D → Ga → Prop}
/-- one argument -/
theorem dA_one {R : List Ar → Ga → Prop} (h : dE X e Γ fun d Γ1 => R [.d d] Γ1) (hs : starEach [e] X.env = [(false, eval e X.env)] := by rfl) : dA X [e] Γ R := dA_cons (dE_mono h fun d Γ1 k => dA_nil k) hs
theorem il1 {K : PySem.W.Frag} {F : Hp} {vs : List V} {d : D} (h : IsL K F vs [d]) : ∃ v, vs = [v] ∧ Is K F v d := by
  cases h with
  | cons a b => cases b; exact ⟨_, rfl, a⟩
/-! ### repr -/
mutual
theorem nod_py : ∀ d : D, d.nod = true → d.py.hasDict = false
  | .non, _ => rfl
  | .bl _, _ => rfl
  | .int _, _ => rfl
  | .str _, _ => rfl
  | .lst xs, h => by simp only [D.py, PyData.hasDict]; exact nods_py xs (by simpa only [D.nod] using h)
  | .fls xs, h => by simp only [D.py, PyData.hasDict]; exact nods_py xs (by simpa only [D.nod] using h)
  | .tup xs, h => by simp only [D.py, PyData.hasDict]; exact nods_py xs (by simpa only [D.nod] using h)
  | .dct _, h => by simp only [D.nod] at h; cases h
  | .ins _ _, h => by simp only [D.nod] at h; cases h
  | .fn _ _ _ _, h => by simp only [D.nod] at h; cases h
theorem nods_py : ∀ d : List D, D.nods d = true → PyData.hasDictAll (D.pys d) = false
  | [], _ => rfl
  | x :: xs, h => by
    simp only [D.nods, Bool.and_eq_true] at h
    simp only [D.pys, PyData.hasDictAll, nod_py x h.1, nods_py xs h.2, Bool.or_self]
end
/-- what repr can write: d without a dict, or a dict of flat things -/
def Shows (d : D) : Prop := d.py.showable = true ∧ d.py.shown.length ≤ sizeLine ∧ d.py.depth ≤ 60 ∧ (d.nod = true ∨ ∃ kvs, d = .dct kvs ∧ kvs.all (fun q => q.2.flat) = true)
theorem call_reprD {k : Nat} (hr : Room k X.A) (hgd : X.A.guards = some []) : CallR X (.builtin "repr") (fun xs H Q => ∃ F v d, Same F H ∧ Is X.K F v d ∧ Shows d ∧ xs = [v] ∧ Q (.str d.py.shown) H) := by
  intro pins s σ H xs us Q I r q
  obtain ⟨F, v, d, ex, iv, ⟨s1, s2, s3, s4⟩, rfl, q⟩ := q
  obtain ⟨u, rfl, ru⟩ := vals1 r
  have hu : X.A.units + (d.py.depth + 1) < cLine := by have := hr.un; omega
  have fin : ∀ h' u tk, (∀ b o, s.heap.get? b = some o → h'.get? b = some o) → EP X pins σ Q (.str d.py.shown u) { s with heap := h', toks := tk } := fun h' u tk kp => ⟨.str d.py.shown, H, I.kept kp, ⟨u, rfl⟩, q⟩
  cases iv with
  | non => cases ru; exact PySem.P.repr_of_none (fin s.heap _ _ fun _ _ z => z)
  | bl b =>
    cases ru
    refine PySem.P.repr_of_bool ?_
    have := fin s.heap s.toks (s.toks + 1) fun _ _ z => z
    simp only [D.py, PyData.shown] at this
    exact this
  | int i =>
    obtain ⟨t, rfl⟩ := ru
    refine PySem.P.repr_of_int (by simpa only [D.py, PyData.showable, decide_eq_true_eq] using s1) ?_
    have := fin s.heap s.toks (s.toks + 1) fun _ _ z => z
    simp only [D.py, PyData.shown] at this
    exact this
  | str x =>
    obtain ⟨t, rfl⟩ := ru
    refine PySem.P.repr_of_str ?_ (by simpa only [D.py, PyData.shown] using s2)
    have := fin s.heap s.toks (s.toks + 1) fun _ _ z => z
    simp only [D.py, PyData.shown] at this
    exact this
  | lst e l =>
    rcases s4 with s4 | ⟨kvs, z, _⟩
    · obtain ⟨as, rd⟩ := Is.reads I ex (.lst e l) s4 ru
      cases ru
      exact repr_of_reads' rd s1 (fun z => by rw [nod_py _ s4] at z; cases z) hgd hu (fun _ _ z => z) fin s2
    · cases z
  | fls e l =>
    rcases s4 with s4 | ⟨kvs, z, _⟩
    · obtain ⟨as, rd⟩ := Is.reads I ex (.fls e l) s4 ru
      cases ru
      exact repr_of_reads' rd s1 (fun z => by rw [nod_py _ s4] at z; cases z) hgd hu (fun _ _ z => z) fin s2
    · cases z
  | tup e l =>
    rcases s4 with s4 | ⟨kvs, z, _⟩
    · obtain ⟨as, rd⟩ := Is.reads I ex (.tup e l) s4 ru
      cases ru
      exact repr_of_reads' rd s1 (fun z => by rw [nod_py _ s4] at z; cases z) hgd hu (fun _ _ z => z) fin s2
    · cases z
  | dct e l =>
    rcases s4 with s4 | ⟨kvs, z, hf⟩
    · simp only [D.nod] at s4; cases s4
    · cases z
      obtain ⟨a, eu, na, rd⟩ := Is.readsD I ex (.dct e l) hf ru
      subst eu
      exact repr_of_reads' rd s1 (fun _ m => na (List.mem_singleton.mp m).symm) hgd hu (fun _ _ z => z) fin s2
  | ins e l =>
    rcases s4 with s4 | ⟨kvs, z, hf⟩
    · simp only [D.nod] at s4; cases s4
    · cases z
  | fn e =>
    rcases s4 with s4 | ⟨kvs, z, hf⟩
    · simp only [D.nod] at s4; cases s4
    · cases z
theorem dE_repr {k : Nat} (hr : Room k X.A) (hgd : X.A.guards = some []) (hm : X.mg "repr" = none) (h : dE X e Γ fun d Γ1 => Shows d ∧ P (.str d.py.shown) Γ1) (hg : Gl X "repr" := by rfl)
    (hs : starEach [e] X.env = [(false, eval e X.env)] := by rfl) (hpl : (backTo pos (starEach [] X.env)).any (·.1) = false := by rfl) : dE X (.Call (.Name "repr" p) [e] [] pos) Γ P := by
  refine dE_cb (pe_callB (call_reprD hr hgd) hg hm boot_repr paW (by decide) (by decide) hs hpl) (dA_one (dE_mono h fun d Γ1 ⟨sh, k⟩ => ⟨[d], rfl, fun z => z = .str d.py.shown, ?_, fun z e => e ▸ k⟩) hs)
  intro vs F H Q il ex hq
  obtain ⟨v, rfl, iv⟩ := il1 il
  exact ⟨F, v, d, ex, iv, sh, rfl, hq _ _ F H rfl (.refl ex) (.str _)⟩

/-! ### len, int, max, all, any, tuple, list, sorted, dict -/
/-- how many parts -/
def D.size : D → Option Nat
  | .lst xs => some xs.length
  | .fls xs => some xs.length
  | .tup xs => some xs.length
  | .dct kvs => some kvs.length
  | .str s => some s.length
  | _ => none
theorem call_lenX : CallR X (.builtin "len") (fun xs H Q => ∃ F v d n, Same F H ∧ Is X.K F v d ∧ d.size = some n ∧ n ≤ 1000000 ∧ xs = [v] ∧ Q (.int n) H) := by
  intro pins s σ H xs us Q I r q
  obtain ⟨F, v, d, n, ex, iv, hn, hs, rfl, q⟩ := q
  cases iv with
  | str z =>
    cases hn
    exact call_len pins s σ H _ us Q I r ⟨.str z, _, rfl, ⟨sz hs, rfl⟩, q⟩
  | lst e l =>
    cases hn
    exact call_len pins s σ H _ us Q I r ⟨_, _, rfl, .inl ⟨_, SqL.of (ex _ _ e), l.length.symm⟩, q⟩
  | fls e l =>
    cases hn
    exact call_len pins s σ H _ us Q I r ⟨_, _, rfl, .inl ⟨_, sql_up (Up.of ex) e, l.length.symm⟩, q⟩
  | tup e l =>
    cases hn
    exact call_len pins s σ H _ us Q I r ⟨_, _, rfl, .inr ⟨_, sqt_up (Up.of ex) e, l.length.symm⟩, q⟩
  | dct e l =>
    cases hn
    obtain ⟨u, rfl, ru⟩ := vals1 r
    cases ru
    refine d_len I ((Up.of ex).rd _ _ trivial e) fun t s' I' => ⟨.int _, H, I', ⟨t, rfl⟩, ?_⟩
    rw [l.length]
    exact q
  | _ => cases hn
theorem dE_len (hm : X.mg "len" = none) (h : dE X e Γ fun d Γ1 => ∃ n, d.size = some n ∧ n ≤ 1000000 ∧ P (.int n) Γ1) (hg : Gl X "len" := by rfl)
    (hs : starEach [e] X.env = [(false, eval e X.env)] := by rfl) (hpl : (backTo pos (starEach [] X.env)).any (·.1) = false := by rfl) : dE X (.Call (.Name "len" p) [e] [] pos) Γ P := by
  refine dE_cb (pe_callB call_lenX hg hm boot_len paW (by decide) (by decide) hs hpl) (dA_one (dE_mono h fun d Γ1 ⟨n, hn, hz, k⟩ => ⟨[d], rfl, fun z => z = .int n, ?_, fun z e => e ▸ k⟩) hs)
  intro vs F H Q il ex hq
  obtain ⟨v, rfl, iv⟩ := il1 il
  exact ⟨F, v, d, n, ex, iv, hn, hz, rfl, hq _ _ F H rfl (.refl ex) (.int _)⟩
/-- of the list that slot i alone holds -/
theorem dE_lenO {x : Str} {i : Nat} {pv : Pos} {v : V} {ds : List D} (hm : X.mg "len" = none) (hi : Γ[i]? = some (.ow v (oL ds))) (k : P (.int ds.length) Γ) (hg : Gl X "len" := by rfl) (hN : X.N[i]? = some x := by rfl)
    (hv : Vis X.env.scope x := by first | exact Or.inl rfl | exact Or.inr (Or.inl rfl) | exact Or.inr (Or.inr rfl)) (hd : (x == ("__debug__" : Str)) = false := by decide)
    (hcd : (x == ("__classdict__" : Str)) = false := by decide) (hs : starEach [.Name x pv] X.env = [(false, eval (.Name x pv) X.env)] := by rfl) (hpl : (backTo pos (starEach [] X.env)).any (·.1) = false := by rfl) :
    dE X (.Call (.Name "len" p) [.Name x pv] [] pos) Γ P := by
  refine ⟨?_⟩
  intro B σ F H Q hh hq
  obtain ⟨q, vs, rfl, es, hq', il, _⟩ := hh.getL hi
  refine e_of (pe_callB call_len hg hm boot_len (pa_cons (pe_var hN hv hd hcd) pa_nil hs) (by decide) (by decide) hs hpl) ⟨_, es, .ref q, ds.length, rfl, .inl ⟨vs, SqL.of hq', il.length.symm⟩, ?_⟩
  exact hq _ _ Γ F H k (.refl F) hh (.int _)
/-- int of a truth, of an int -/
theorem dE_intB (hm : X.mg "int" = none) (h : dE X e Γ fun d Γ1 => ∃ k, d = .bl k ∧ P (.int (if k then 1 else 0)) Γ1) (hg : Gl X "int" := by rfl)
    (hs : starEach [e] X.env = [(false, eval e X.env)] := by rfl) (hpl : (backTo pos (starEach [] X.env)).any (·.1) = false := by rfl) : dE X (.Call (.Name "int" p) [e] [] pos) Γ P := by
  refine dE_cb (pe_callTy call_int1 hg hm boot_int paW (by decide) (by decide) hs hpl) (dA_one (dE_mono h fun d Γ1 ⟨k, hd, r⟩ => ⟨[d], rfl, fun z => z = .int (if k then 1 else 0), ?_, fun z e => e ▸ r⟩) hs)
  intro vs F H Q il ex hq
  obtain ⟨v, rfl, iv⟩ := il1 il
  subst hd
  cases iv
  exact .inr ⟨k, rfl, hq _ _ F H rfl (.refl ex) (.int _)⟩
theorem dE_max2 (hc : X.calm = true) (hm : X.mg "max" = none) (h : dA X [a, b] Γ fun as Γ1 => ∃ i j : Int, as = [.d (.int i), .d (.int j)] ∧ P (.int (if j > i then j else i)) Γ1) (hg : Gl X "max" := by rfl)
    (hs : starEach [a, b] X.env = (false, eval a X.env) :: starEach [b] X.env := by rfl) (hpl : (backTo pos (starEach [b] X.env)).any (·.1) = false := by rfl) : dE X (.Call (.Name "max" p) [a, b] [] pos) Γ P := by
  refine ⟨?_⟩
  intro B σ F H Q hh hq
  refine e_of (pe_callB (call_max2 hc) hg hm (by decide +kernel) paW (by decide) (by decide) hs hpl) (h B σ F H _ hh ?_)
  rintro vs as Γ1 F1 H1 ⟨i, j, rfl, r⟩ s1 h1 ar
  cases ar with
  | d i1 ar => cases ar with
    | d i2 ar =>
      cases ar; cases i1; cases i2
      exact ⟨i, j, rfl, hq _ _ Γ1 F1 H1 r s1 h1 (.int _)⟩
theorem dE_all (hc : X.calm = true) (hm : X.mg "all" = none) (h : dE X e Γ fun d Γ1 => ∃ bs : List Bool, d = .lst (bs.map D.bl) ∧ P (.bl (bs.all id)) Γ1) (hg : Gl X "all" := by rfl)
    (hs : starEach [e] X.env = [(false, eval e X.env)] := by rfl) (hpl : (backTo pos (starEach [] X.env)).any (·.1) = false := by rfl) : dE X (.Call (.Name "all" p) [e] [] pos) Γ P := by
  refine dE_cb (pe_callB (cr_all hc) hg hm boot_all paW (by decide) (by decide) hs hpl) (dA_one (dE_mono h fun d Γ1 ⟨bs, hd, r⟩ => ⟨[d], rfl, fun z => z = .bl (bs.all id), ?_, fun z e => e ▸ r⟩) hs)
  intro vs F H Q il ex hq
  obtain ⟨v, rfl, iv⟩ := il1 il
  subst hd
  obtain ⟨q, ws, rfl, hs, l⟩ := iv.sql ex
  cases l.bools
  exact ⟨q, bs, rfl, hs, hq _ _ F H rfl (.refl ex) (.bl _)⟩
/-- tuple of a list -/
theorem dE_tuple (hm : X.mg "tuple" = none) (h : dE X e Γ fun d Γ1 => ∃ xs, d = .lst xs ∧ P (.tup xs) Γ1) (hg : Gl X "tuple" := by rfl)
    (hs : starEach [e] X.env = [(false, eval e X.env)] := by rfl) (hpl : (backTo pos (starEach [] X.env)).any (·.1) = false := by rfl) : dE X (.Call (.Name "tuple" p) [e] [] pos) Γ P := by
  refine dE_cb (pe_callTy call_tuple_of hg hm boot_tuple paW (by decide) (by decide) hs hpl) (dA_one (dE_mono h fun d Γ1 ⟨xs, hd, r⟩ => ⟨[d], rfl, fun z => z = .tup xs, ?_, fun z e => e ▸ r⟩) hs)
  intro vs F H Q il ex hq
  obtain ⟨v, rfl, iv⟩ := il1 il
  subst hd
  obtain ⟨q, ws, rfl, hs, l⟩ := iv.sql ex
  refine ⟨q, ws, rfl, .inl ⟨hs, fun t ht => ?_⟩⟩
  have st : Stp F H (upd F t (.tup ws)) (upd H t (.tup ws)) := .new ex ht
  exact hq _ _ _ _ rfl st (.tup (SqT.of upd_same) (l.up (Up.of st.f)))
/-- sorted texts, fewer than 64 -/
theorem dN_sortedS (hm : X.mg "sorted" = none) (h : dE X e Γ fun d Γ1 => ∃ ss : List Str, d = .lst (ss.map D.str) ∧ ss.length < 64 ∧ ∀ ys : List Str, ys.Perm ss → sortedS ys = true → PN (ys.map D.str) Γ1) (hg : Gl X "sorted" := by rfl)
    (hs : starEach [e] X.env = [(false, eval e X.env)] := by rfl) (hpl : (backTo pos (starEach [] X.env)).any (·.1) = false := by rfl) : dN X (.Call (.Name "sorted" p) [e] [] pos) Γ PN := by
  refine ⟨?_⟩
  intro B σ F H Q hh hq
  refine e_of (pe_callB cr_sortedS hg hm boot_sorted (pa_cons peW pa_nil hs) (by decide) (by decide) hs hpl) (h B σ F H _ hh ?_)
  rintro v d Γ1 F1 H1 ⟨ss, rfl, hl, r⟩ s1 h1 i1
  obtain ⟨q, ws, rfl, hs, l⟩ := i1.sql h1.ex
  cases l.strs
  exact ⟨q, ss, rfl, hs, hl, fun ys p pm so hp => hq p _ _ Γ1 F1 H1 (r ys pm so) s1 h1 hp (isL_strs ys)⟩
end
end Nd
/-! Part 8: a star among targets; dict and list of pairs; join, index, isinstance; == of data. -/
namespace Nd
open PySem PySem.Spec L2
open PyProof.Rows hiding St
variable [Tb]

/-! ### x, *xs = a list -/
section
variable {prog : Program} {w : World} {A : Around} {E : Value → Shared → Prop} {s : Shared}
/-- a list's iterator from place j on -/
theorem walks_from (hh : A.handled = none) (I l : Addr) (hne : l ≠ I) (items : Array Value) (j : Nat) (hj : j ≤ items.size) :
    WalksS prog w A I [I, l] [I] (fun a b => b = a) (items.size - j) (fun i v => items[j + i]? = some v) (fun i s => s.heap.IsListIter I l (j + i) ∧ s.heap.IsList l items) where
  sub := fun b hb => by cases List.mem_singleton.mp hb; exact List.mem_cons_self
  grefl := fun _ => rfl
  gtrans := fun _ _ _ h1 h2 => h2.trans h1
  frame := fun i s h' tk st _ k => ⟨st.1.at fun o e => k I List.mem_cons_self o e, by
    obtain ⟨o, ho, r⟩ := st.2
    exact ⟨o, k l (List.mem_cons_of_mem _ List.mem_cons_self) o ho, r⟩⟩
  item := fun i s Q E hi st hq => by
    have hlt : j + i < items.size := by omega
    refine wpAny_pyNext_list_item st.1 st.2 (x := items[j + i]) (by simp [hlt]) fun h' hit hs => ?_
    refine hq _ _ (by simp [hlt]) ⟨by rw [show j + (i + 1) = j + i + 1 by omega]; exact hit, st.2.extBut hs.extBut hne⟩ ⟨fun b o hb e => hs.extBut b o (fun z => hb (by rw [z]; exact List.mem_singleton.mpr rfl)) e, rfl, rfl, rfl, Nat.le_refl _⟩
  done := fun s Q E st hq => by
    have e : j + (items.size - j) = items.size := by omega
    rw [e] at st
    exact wpAny_pyNext_list_end hh st.1 st.2 (by simp) fun h' he => hq _ ⟨fun b o hb e => he b o (fun z => hb (by rw [z]; exact List.mem_singleton.mpr rfl)) e, rfl, rfl, rfl, Nat.le_refl _⟩
  self := fun i s Q E st h => wpAny_pyIter_listiter st.1 h
theorem unpack_star {l : Addr} {items : Array Value} {x : Value} {xs : List Value} {Q : List Value → Shared → Prop} (hh : A.handled = none) (hl : s.heap.IsList l items) (hx : items.toList = x :: xs) (hz : items.size ≤ sizeLine)
    (hQ : ∀ (h' : Heap) (tk : Nat), (∀ b o, s.heap.get? b = some o → h'.get? b = some o) → Q [x, .ref h'.objs.size] { s with heap := h'.push { cls := .type "list", data := .seq xs.toArray }, toks := tk }) :
    wpAny (model prog w) A (unpackItems (.ref l) 2 (some 1)) Q E s := by
  have hlt : l ≠ s.heap.objs.size := by obtain ⟨o, ho, _⟩ := hl; exact Nat.ne_of_lt (Heap.lt_size ho)
  have hsz : items.size = xs.length + 1 := by rw [← Array.length_toList, hx]; rfl
  unfold unpackItems
  refine wpAny_bind ?_
  unfold notIterableAtAll
  refine wpAny_bind (wpAny_specialOf hl.typeIs slot_list_iter.lookup ?_)
  refine wpAny_pure ?_
  simp only [Bool.false_eq_true, if_false]
  refine wpAny_bind (wpAny_holding (wpAny_pyIter_list hl ?_))
  refine wpAny_bind (wpAny_holding (PySem.W.kun_draw hlt 1 0 _ _ ⟨_, Heap.get?_push_size _ rfl, rfl, rfl⟩ (hl.push _) (by omega) fun h1 hit1 hs1 => ?_))
  have e1 : List.take 1 (List.drop 0 items.toList) = [x] := by rw [hx]; rfl
  rw [e1]
  rw [if_neg (by simp)]
  have hl1 : h1.IsList l items := (hl.push _).extBut hs1.extBut hlt
  have hI1 : s.heap.objs.size < h1.objs.size := by
    obtain ⟨o, ho, _⟩ := hit1
    exact Heap.lt_size ho
  refine wpAny_bind (wpAny_holding (wpAny_collect_iter (T := "list_iterator") (.inr (.inr (.inl rfl))) (walks_from (A := A.in1) hh s.heap.objs.size l hlt items 1 (by omega)) (fun i s st => st.1.typeIs) ⟨by simpa using hit1, hl1⟩
    (fun b hb => ?_) List.mem_cons_self (fun s2 acc mv ia => ?_) (by rw [hsz] at hz ⊢; omega)))
  · rcases List.mem_cons.mp hb with z | z
    · rw [z]; exact hI1
    · rw [List.mem_singleton.mp z]
      obtain ⟨o, ho, _⟩ := hl1
      exact Heap.lt_size ho
  have ea : acc.toList = xs := by
    apply List.ext_getElem?
    intro j
    have hlen : acc.size = xs.length := by rw [ia.1, hsz]; omega
    cases h : acc.toList[j]? with
    | none =>
      have : acc.toList.length ≤ j := List.getElem?_eq_none_iff.mp h
      rw [Array.length_toList, hlen] at this
      rw [List.getElem?_eq_none this]
    | some v =>
      have h2 : acc[j]? = some v := by rw [← Array.getElem?_toList]; exact h
      have h3 := ia.2 j v h2
      have h4 : items.toList[1 + j]? = some v := by rw [Array.getElem?_toList]; exact h3
      rw [hx, Nat.add_comm] at h4
      exact h4.symm
  rw [ea]
  show wpAny _ _ (if xs.length < 2 - 1 - 1 then _ else _) _ _ s2
  rw [if_neg (by omega)]
  have em : xs.length - (2 - 1 - 1) = xs.length := by omega
  rw [em, List.take_length]
  refine wpAny_bind (wpAny_newList ?_ (by omega))
  refine wpAny_pure ?_
  rw [show List.drop xs.length xs = [] from List.drop_length]
  obtain ⟨h2, g2, d2, t2, o2⟩ := s2
  have eg : g2 = s.gens := mv.gens
  have ed : d2 = s.drawn := mv.drawn
  have eo : o2 = s.os := mv.os
  subst eg ed eo
  exact hQ h2 t2 fun b o e => mv.heap b o (fun z => by
    rw [List.mem_singleton.mp z] at e
    exact absurd (Heap.lt_size e) (Nat.lt_irrefl _)) (hs1.extBut b o (Nat.ne_of_lt (Heap.lt_size e)) (Heap.get?_push_of_some _ e))
end

section
variable {X : Cx} {a b c e : Expr} {es : List Expr} {p pos : Pos} {Γ : Ga} {P : D → Ga → Prop} {PN : List D → Ga → Prop} {G : Ga → Prop}
theorem pg_star {t1 t2 : Expr} {k : Nat} {sp : Pos} {u : TGs} (hc : X.calm = true) (h : PGs X [t1, t2] u) (he : (assignEach [t1, .Starred t2 sp] X.env).map (·.2) = (assignEach [t1, t2] X.env).map (·.2) := by rfl)
    (hn : (assignEach [t1, .Starred t2 sp] X.env).length = 2 := by rfl) (hst : (assignEach [t1, .Starred t2 sp] X.env).findIdx? (·.1) = some 1 := by rfl) :
    PG X (.Tuple [t1, .Starred t2 sp] k pos) (fun v σ H Q => ∃ a x xr, v = .ref a ∧ SqL X.K H a (x :: xr) ∧ ∀ p, H p = none → u [x, .ref p] σ (upd H p (.lst xr)) Q) := by
  refine ⟨fun pins s σ H v u' Q I r hw => ?_⟩
  obtain ⟨a, x, xr, rfl, hq, hw⟩ := hw
  cases r
  obtain ⟨its, rv, pl, hz⟩ := I.list hq
  cases rv with
  | cons r1 r2 =>
    rename_i w ws
    have hl : s.heap.IsList a (w :: ws).toArray := by
      obtain ⟨o, m, e, c, d, q⟩ := pl
      exact ⟨o, e, c, m, q⟩
    rw [PyProof.Rows.assign_Tuple]
    refine wpAny_bind (wpAny_standAt ?_)
    unfold unpack
    rw [hn, hst, he]
    refine wpAny_bind (wpAny_holding (unpack_star (I.ok.hd hc) hl rfl (by rw [List.size_toArray, List.length_cons, ← r2.length]; exact hz) fun h' tk kp => ?_))
    have hp : H h'.objs.size = none := (I.hok.kept kp).fresh (Nat.le_refl _)
    have I1 : Inv X pins σ (upd H h'.objs.size (.lst xr)) { s with heap := h'.push { cls := .type "list", data := .seq ws.toArray }, toks := tk } := by
      have I0 : Inv X pins σ H { s with heap := h', toks := tk } := I.kept kp
      exact I0.laid (t' := tk) (fun b o e => Heap.get?_push_of_some _ e) (Nat.le_refl _) ⟨by rw [List.length_cons] at hz; omega, ws, 0, r2, Heap.get?_push_size _ rfl⟩
    exact h.run pins _ σ _ [x, .ref h'.objs.size] [w, .ref h'.objs.size] Q I1 (.cons r1 (.cons rfl .nil)) (hw _ hp)
/-- x, *xs = e: the rest is forgotten -/
theorem dS_star {P : Ou} {i j : Nat} {x y : Str} {px py sp tp : Pos} {k : Nat} (hc : X.calm = true) (hN : X.N.Nodup) (h : dE X e Γ fun d Γ1 => ∃ d0 ds, d = .lst (d0 :: ds) ∧ P.nx ((Γ1.set i (.im d0)).set j (.im (.lst ds))))
    (hi : X.N[i]? = some x := by rfl) (hj : X.N[j]? = some y := by rfl) (hx : Loc X.env.scope x := by first | exact Or.inl rfl | exact Or.inr rfl) (hy : Loc X.env.scope y := by first | exact Or.inl rfl | exact Or.inr rfl)
    (hf : X.fn x = true ∨ X.env.scope.names.lookup x = some .local := by first | exact .inl rfl | exact .inr rfl) (hf2 : X.fn y = true ∨ X.env.scope.names.lookup y = some .local := by first | exact .inl rfl | exact .inr rfl)
    (hs : swapsWithSole [.Tuple [.Name x px, .Starred (.Name y py) sp] k tp] e pos.line X.env = pure false := by rfl) (hw : swappedStores [.Tuple [.Name x px, .Starred (.Name y py) sp] k tp] e X.env = pure none := by rfl)
    (h1' : (assignEach [.Tuple [.Name x px, .Starred (.Name y py) sp] k tp] X.env).map (·.2) = [assign (.Tuple [.Name x px, .Starred (.Name y py) sp] k tp) X.env] := by rfl) :
    dS X (.Assign [.Tuple [.Name x px, .Starred (.Name y py) sp] k tp] e pos) Γ P := by
  refine ⟨?_⟩
  intro B σ F H E hh hq
  refine s_of (ps_asg peW (pg_star hc (pgs_cons (pg_name hN hi hx hf) (pgs_cons (pg_name hN hj hy hf2) pgs_nil rfl) rfl)) hs hw h1') (h B σ F H _ hh ?_)
  rintro v d Γ1 F1 H1 ⟨d0, ds, rfl, r⟩ s1 h1 i1
  obtain ⟨q, vs, rfl, hsq, il⟩ := i1.sql h1.ex
  cases il with
  | cons a b =>
    rename_i v0 vr
    refine ⟨q, v0, vr, rfl, hsq, fun p hp => ?_⟩
    have st : Stp F1 H1 (upd F1 p (.lst vr)) (upd H1 p (.lst vr)) := .new h1.ex hp
    have h2 := h1.stp st
    refine ⟨v0, [.ref p], rfl, .ref p, [], rfl, rfl, ?_⟩
    exact hq.nx _ _ _ _ r (s1.trans st.f) ((h2.set (i := i) (a.up (Up.of st.f))).set (i := j) (.lst upd_same (b.up (Up.of st.f))))

/-! ### dict(pairs), list(d) -/
def pairD (q : Key × D) : D := .tup [kD q.1, q.2]
theorem pairs_V {K : PySem.W.Frag} {F H : Hp} (ex : Same F H) : ∀ {kvs : List (Key × D)} {vs : List V}, IsL K F vs (kvs.map pairD) → ∃ (ps : List Addr) (ws : List (Key × V)), vs = ps.map V.ref ∧ Paired (fun p (kv : Key × V) => SqT K H p [kV kv.1, kv.2]) ps ws ∧ IsK K F ws kvs
  | [], _, .nil => ⟨[], [], rfl, .nil, .nil⟩
  | (k, d) :: kvs, _, .cons a b => by
    obtain ⟨q, xs, rfl, hs, il⟩ := Is.sqt (ds := [kD k, d]) a ex
    obtain ⟨ps, ws, rfl, hp, hk⟩ := pairs_V ex b
    cases il with
    | cons i1 il => cases il with
      | cons i2 il =>
        cases il
        rw [kD_V i1] at hs
        exact ⟨q :: ps, (k, _) :: ws, rfl, .cons hs hp, .cons i2 hk⟩
theorem IsK.keys {K : PySem.W.Frag} {F : Hp} : ∀ {vs : List (Key × V)} {ds : List (Key × D)}, IsK K F vs ds → vs.map (·.1) = ds.map (·.1)
  | _, _, .nil => rfl
  | _, _, .cons _ b => by rw [List.map_cons, List.map_cons, b.keys]
theorem valV_none {kvs : List (Key × V)} {k : Key} (h : k ∉ kvs.map (·.1)) : valV kvs k = none := by
  cases z : valV kvs k with
  | none => rfl
  | some v => exact absurd (valV_in z) h
theorem merge_nd : ∀ (more kvs : List (Key × V)), ((kvs ++ more).map (·.1)).Nodup → mergeK kvs more = kvs ++ more
  | [], kvs, _ => by rw [List.append_nil]; rfl
  | (k, v) :: more, kvs, h => by
    have hk : k ∉ kvs.map (·.1) := by
      rw [List.map_append, List.map_cons] at h
      intro m
      exact (List.nodup_append.mp h).2.2 k m k List.mem_cons_self rfl
    show mergeK (putK kvs k v) more = _
    rw [putK_new v (valV_none hk)]
    have e : kvs ++ (k, v) :: more = (kvs ++ [(k, v)]) ++ more := by simp
    rw [e] at h ⊢
    exact merge_nd more _ h
theorem dE_dict (hc : X.calm = true) (hm : X.mg "dict" = none) (h : dE X e Γ fun d Γ1 => ∃ kvs : List (Key × D), d = .lst (kvs.map pairD) ∧ (kvs.map (·.1)).Nodup ∧ P (.dct kvs) Γ1) (hg : Gl X "dict" := by rfl)
    (hs : starEach [e] X.env = [(false, eval e X.env)] := by rfl) (hpl : (backTo pos (starEach [] X.env)).any (·.1) = false := by rfl) : dE X (.Call (.Name "dict" p) [e] [] pos) Γ P := by
  refine dE_cb (pe_callTy (call_dictP hc) hg hm boot_dict paW (by decide) (by decide) hs hpl) (dA_one (dE_mono h fun d Γ1 ⟨kvs, hd, nd, r⟩ => ⟨[d], rfl, fun z => z = .dct kvs, ?_, fun z e => e ▸ r⟩) hs)
  intro vs F H Q il ex hq
  obtain ⟨v, rfl, iv⟩ := il1 il
  subst hd
  obtain ⟨q, ws, rfl, hs, l⟩ := iv.sql ex
  obtain ⟨ps, kw, rfl, hp, hk⟩ := pairs_V ex l
  refine ⟨q, ps, kw, rfl, hs, hp, fun t ht => ?_⟩
  rw [merge_nd kw [] (by rw [List.nil_append, hk.keys]; exact nd), List.nil_append]
  have st : Stp F H (upd F t (.dK kw)) (upd H t (.dK kw)) := .new ex ht
  exact hq _ _ _ _ rfl st (.dct (.inl upd_same) (hk.up (Up.of st.f)))
theorem isL_keys {K : PySem.W.Frag} {F : Hp} : ∀ {vs : List (Key × V)} {ds : List (Key × D)}, IsK K F vs ds → IsL K F (vs.map fun kv => kV kv.1) (ds.map fun q => kD q.1)
  | _, _, .nil => .nil
  | _, _, .cons (k := k) _ b => by
    refine .cons ?_ (isL_keys b)
    cases k with
    | inl n => exact .int n
    | inr n => exact .str n
theorem dN_listD (hc : X.calm = true) (hm : X.mg "list" = none) (h : dE X e Γ fun d Γ1 => ∃ kvs : List (Key × D), d = .dct kvs ∧ PN (kvs.map fun q => kD q.1) Γ1) (hg : Gl X "list" := by rfl)
    (hs : starEach [e] X.env = [(false, eval e X.env)] := by rfl) (hpl : (backTo pos (starEach [] X.env)).any (·.1) = false := by rfl) : dN X (.Call (.Name "list" p) [e] [] pos) Γ PN := by
  refine ⟨?_⟩
  intro B σ F H Q hh hq
  refine e_of (pe_callTy (call_listD hc) hg hm boot_list (pa_cons peW pa_nil hs) (by decide) (by decide) hs hpl) (h B σ F H _ hh ?_)
  rintro v d Γ1 F1 H1 ⟨kvs, rfl, r⟩ s1 h1 i1
  obtain ⟨q, ws, rfl, rd, l⟩ := i1.dk h1.ex
  exact ⟨q, ws, rfl, rd, fun t ht => hq t _ _ Γ1 F1 H1 r s1 h1 ht (isL_keys l)⟩

/-! ### texts: join; a list's index -/
theorem dE_join {ap : Pos} (h : dE X a Γ fun x Γ1 => ∃ s, x = .str s ∧ dE X b Γ1 fun y Γ2 => ∃ ys : List Str, (y = .lst (ys.map D.str) ∨ y = .tup (ys.map D.str)) ∧ (ys.map (·.length)).sum + ys.length * s.length ≤ 16777216 ∧ P (.str (Str.join s ys)) Γ2)
    (hs : starEach [b] X.env = [(false, eval b X.env)] := by rfl) (hbase : attributeBase a "join" X.env (eval a X.env) = eval a X.env := by rfl) (hline : (ap.endLine == pos.line) = true := by rfl) : dE X (.Call (.Attribute a "join" ap) [b] [] pos) Γ P := by
  refine ⟨?_⟩
  intro B σ F H Q hh hq
  refine e_of (pe_join peW peW hs hbase hline) (h B σ F H _ hh ?_)
  rintro v x Γ1 F1 H1 ⟨s, rfl, hb⟩ s1 h1 i1
  cases i1
  refine ⟨⟨s, rfl⟩, hb B σ F1 H1 _ h1 ?_⟩
  rintro u y Γ2 F2 H2 ⟨ys, hy, hl, r⟩ s2 h2 i2
  have fin := hq (.str (Str.join s ys)) _ Γ2 F2 H2 r (s1.trans s2) h2 (.str _)
  rcases hy with rfl | rfl
  · obtain ⟨q, ws, rfl, hs, l⟩ := i2.sql h2.ex
    cases l.strs
    exact ⟨s, q, ys, rfl, rfl, .inl hs, hl, by rw [TL.join_eq]; exact fin⟩
  · obtain ⟨q, ws, rfl, hs, l⟩ := i2.sqt h2.ex
    cases l.strs
    exact ⟨s, q, ys, rfl, rfl, .inr hs, hl, by rw [TL.join_eq]; exact fin⟩
theorem eqV_str (a b : Str) : eqV (.str a) (.str b) = decide (a = b) := by
  show (a == b) = _
  by_cases h : a = b
  · subst h; simp
  · rw [decide_eq_false h]; simpa using h
theorem dE_index {ap : Pos} (h : dE X a Γ fun x Γ1 => ∃ ss : List Str, x = .lst (ss.map D.str) ∧ dE X b Γ1 fun y Γ2 => ∃ s, y = .str s ∧ s ∈ ss ∧ P (.int (ss.idxOf s : Nat)) Γ2)
    (he : starEach [b] X.env = [(false, eval b X.env)] := by rfl) (hbase : attributeBase a "index" X.env (eval a X.env) = eval a X.env := by rfl)
    (hfew : ((backTo pos (starEach [b] X.env)).all (fun x => !x.1) && (backToKw pos (keywordEach [] X.env)).all (fun x => x.1.isSome)
      && decide ([b].length + ([] : List Keyword).length + (if ([] : List Keyword).isEmpty then 0 else 1) < 30)) = true := by rfl)
    (hline : (ap.endLine == pos.line) = true := by rfl) : dE X (.Call (.Attribute a "index" ap) [b] [] pos) Γ P := by
  refine ⟨?_⟩
  intro B σ F H Q hh hq
  refine e_of (pe_bm PySem.F.plainAttrs_list PySem.F.slot_list_index PySem.F.type_list_index mt_index peW (pa_cons peW pa_nil he) hbase hfew hline he) (h B σ F H _ hh ?_)
  rintro v x Γ1 F1 H1 ⟨ss, rfl, hb⟩ s1 h1 i1
  obtain ⟨q, ws, rfl, hs, l⟩ := i1.sql h1.ex
  cases l.strs
  refine ⟨.inl ⟨rfl, _, hs⟩, hb B σ F1 H1 _ h1 ?_⟩
  rintro u y Γ2 F2 H2 ⟨s, rfl, hm, r⟩ s2 h2 i2
  cases i2
  obtain ⟨q', ws', e', hs', l'⟩ := (i1.up (Up.of s2)).sql h2.ex
  cases e'
  cases l'.strs
  have hlt : ss.idxOf s < ss.length := List.idxOf_lt_length_iff.mpr hm
  refine ⟨q, _, .str s, ss.idxOf s, .str s, rfl, rfl, hs', rfl, flat_strs ss, ?_, by rw [eqV_str]; simp, ?_, hq _ _ Γ2 F2 H2 r (s1.trans s2) h2 (.int _)⟩
  · rw [List.getElem?_map, List.getElem?_eq_getElem hlt, List.getElem_idxOf hlt]
    rfl
  · intro m z' hm' hz
    rw [List.getElem?_map] at hz
    cases hz2 : ss[m]? with
    | none => rw [hz2] at hz; cases hz
    | some t =>
      rw [hz2] at hz
      cases hz
      rw [eqV_str]
      refine decide_eq_false fun e => ?_
      subst e
      obtain ⟨hl, e⟩ := List.getElem?_eq_some_iff.mp hz2
      have := List.not_of_lt_findIdx (xs := ss) (p := (· == t)) hm'
      simp [e] at this

/-! ### isinstance of a built-in class -/
def D.ty : D → String
  | .non => "NoneType" | .bl _ => "bool" | .int _ => "int" | .str _ => "str" | .lst _ => "list" | .fls _ => "list" | .tup _ => "tuple" | .dct _ => "dict" | .ins _ _ => "" | .fn _ _ _ _ => ""
/-- of a built-in type -/
def D.bt : D → Bool
  | .ins _ _ => false
  | .fn _ _ _ _ => false
  | _ => true
theorem Is.tyx {K : PySem.W.Frag} {F H : Hp} {v : V} {d : D} (h : Is K F v d) (ex : Same F H) (hb : d.bt = true) : TyX K H v (.type d.ty) := by
  cases h with
  | non => exact .base .non
  | bl b => exact .base (.bl b)
  | int i => exact .base (.int i)
  | str s => exact .base (.str s)
  | lst e l => exact .base (.lst (ex _ _ e))
  | fls e l =>
    rcases e with (e | ⟨o, e⟩) | ⟨o, its, n, e, c, _⟩
    · exact .base (.lst (ex _ _ e))
    · exact .base (.frz (ex _ _ e))
    · exact .kList e c
  | tup e l =>
    rcases e with (e | ⟨o, e⟩) | ⟨o, its, n, e, c, _⟩
    · exact .base (.tup (ex _ _ e))
    · exact .fTuple (ex _ _ e)
    · exact .kTuple e c
  | dct e l =>
    rcases e with e | ⟨o, e⟩
    · exact .base (.dK (ex _ _ e))
    · exact .fDict (ex _ _ e)
  | ins e l => cases hb
  | fn e => cases hb
/-! what isinstance tells of data -/
def D.is_str : D → Bool
  | .str _ => true
  | _ => false
theorem kit_str (d : D) (hb : d.bt = true := by rfl) : kitB d.ty "str" = some d.is_str := by
  cases d with
  | ins _ _ => cases hb
  | fn _ _ _ _ => cases hb
  | non => exact (by decide +kernel : kitB "NoneType" "str" = some false)
  | bl _ => exact (by decide +kernel : kitB "bool" "str" = some false)
  | int _ => exact (by decide +kernel : kitB "int" "str" = some false)
  | str _ => exact (by decide +kernel : kitB "str" "str" = some true)
  | lst _ => exact (by decide +kernel : kitB "list" "str" = some false)
  | fls _ => exact (by decide +kernel : kitB "list" "str" = some false)
  | tup _ => exact (by decide +kernel : kitB "tuple" "str" = some false)
  | dct _ => exact (by decide +kernel : kitB "dict" "str" = some false)
def D.is_int : D → Bool
  | .int _ => true
  | .bl _ => true
  | _ => false
theorem kit_int (d : D) (hb : d.bt = true := by rfl) : kitB d.ty "int" = some d.is_int := by
  cases d with
  | ins _ _ => cases hb
  | fn _ _ _ _ => cases hb
  | non => exact (by decide +kernel : kitB "NoneType" "int" = some false)
  | bl _ => exact (by decide +kernel : kitB "bool" "int" = some true)
  | int _ => exact (by decide +kernel : kitB "int" "int" = some true)
  | str _ => exact (by decide +kernel : kitB "str" "int" = some false)
  | lst _ => exact (by decide +kernel : kitB "list" "int" = some false)
  | fls _ => exact (by decide +kernel : kitB "list" "int" = some false)
  | tup _ => exact (by decide +kernel : kitB "tuple" "int" = some false)
  | dct _ => exact (by decide +kernel : kitB "dict" "int" = some false)
def D.is_bool : D → Bool
  | .bl _ => true
  | _ => false
theorem kit_bool (d : D) (hb : d.bt = true := by rfl) : kitB d.ty "bool" = some d.is_bool := by
  cases d with
  | ins _ _ => cases hb
  | fn _ _ _ _ => cases hb
  | non => exact (by decide +kernel : kitB "NoneType" "bool" = some false)
  | bl _ => exact (by decide +kernel : kitB "bool" "bool" = some true)
  | int _ => exact (by decide +kernel : kitB "int" "bool" = some false)
  | str _ => exact (by decide +kernel : kitB "str" "bool" = some false)
  | lst _ => exact (by decide +kernel : kitB "list" "bool" = some false)
  | fls _ => exact (by decide +kernel : kitB "list" "bool" = some false)
  | tup _ => exact (by decide +kernel : kitB "tuple" "bool" = some false)
  | dct _ => exact (by decide +kernel : kitB "dict" "bool" = some false)
def D.is_tuple : D → Bool
  | .tup _ => true
  | _ => false
theorem kit_tuple (d : D) (hb : d.bt = true := by rfl) : kitB d.ty "tuple" = some d.is_tuple := by
  cases d with
  | ins _ _ => cases hb
  | fn _ _ _ _ => cases hb
  | non => exact (by decide +kernel : kitB "NoneType" "tuple" = some false)
  | bl _ => exact (by decide +kernel : kitB "bool" "tuple" = some false)
  | int _ => exact (by decide +kernel : kitB "int" "tuple" = some false)
  | str _ => exact (by decide +kernel : kitB "str" "tuple" = some false)
  | lst _ => exact (by decide +kernel : kitB "list" "tuple" = some false)
  | fls _ => exact (by decide +kernel : kitB "list" "tuple" = some false)
  | tup _ => exact (by decide +kernel : kitB "tuple" "tuple" = some true)
  | dct _ => exact (by decide +kernel : kitB "dict" "tuple" = some false)
def D.is_list : D → Bool
  | .lst _ => true
  | .fls _ => true
  | _ => false
theorem kit_list (d : D) (hb : d.bt = true := by rfl) : kitB d.ty "list" = some d.is_list := by
  cases d with
  | ins _ _ => cases hb
  | fn _ _ _ _ => cases hb
  | non => exact (by decide +kernel : kitB "NoneType" "list" = some false)
  | bl _ => exact (by decide +kernel : kitB "bool" "list" = some false)
  | int _ => exact (by decide +kernel : kitB "int" "list" = some false)
  | str _ => exact (by decide +kernel : kitB "str" "list" = some false)
  | lst _ => exact (by decide +kernel : kitB "list" "list" = some true)
  | fls _ => exact (by decide +kernel : kitB "list" "list" = some true)
  | tup _ => exact (by decide +kernel : kitB "tuple" "list" = some false)
  | dct _ => exact (by decide +kernel : kitB "dict" "list" = some false)
def D.is_dict : D → Bool
  | .dct _ => true
  | _ => false
theorem kit_dict (d : D) (hb : d.bt = true := by rfl) : kitB d.ty "dict" = some d.is_dict := by
  cases d with
  | ins _ _ => cases hb
  | fn _ _ _ _ => cases hb
  | non => exact (by decide +kernel : kitB "NoneType" "dict" = some false)
  | bl _ => exact (by decide +kernel : kitB "bool" "dict" = some false)
  | int _ => exact (by decide +kernel : kitB "int" "dict" = some false)
  | str _ => exact (by decide +kernel : kitB "str" "dict" = some false)
  | lst _ => exact (by decide +kernel : kitB "list" "dict" = some false)
  | fls _ => exact (by decide +kernel : kitB "list" "dict" = some false)
  | tup _ => exact (by decide +kernel : kitB "tuple" "dict" = some false)
  | dct _ => exact (by decide +kernel : kitB "dict" "dict" = some true)
theorem dE_isi {T : String} {x : Str} {px : Pos} (hm : X.mg "isinstance" = none) (hx : X.mg x = none) (hT : bootBuiltins x = some (.type T)) (h : dE X a Γ fun d Γ1 => ∃ k, d.bt = true ∧ kitB d.ty T = some k ∧ P (.bl k) Γ1) (hg : Gl X "isinstance" := by rfl) (hgx : Gl X x := by rfl)
    (hnx : x ≠ "__name__" := by decide) (hdx : (x == ("__debug__" : Str)) = false := by decide)
    (hs : starEach [a, .Name x px] X.env = (false, eval a X.env) :: starEach [.Name x px] X.env := by rfl) (hs2 : starEach [.Name x px] X.env = [(false, eval (.Name x px) X.env)] := by rfl)
    (hpl : (backTo pos (starEach [.Name x px] X.env)).any (·.1) = false := by rfl) : dE X (.Call (.Name "isinstance" p) [a, .Name x px] [] pos) Γ P := by
  refine ⟨?_⟩
  intro B σ F H Q hh hq
  refine e_of (pe_callB call_isi hg hm boot_isinstance (pa_cons peW (pa_cons (pe_bltn (v := .ty T) hgx hx hT rfl hnx hdx) pa_nil hs2) hs) (by decide) (by decide) hs hpl) (h B σ F H _ hh ?_)
  rintro v d Γ1 F1 H1 ⟨k, hb, hk, r⟩ s1 h1 i1
  exact ⟨v, .ty T, .type d.ty, .type T, k, rfl, .ty T, i1.tyx h1.ex hb, kit_ty hk, hq _ _ Γ1 F1 H1 r s1 h1 (.bl k)⟩

/-! ### == and != of data without dicts -/
mutual
theorem Is.dp {K : PySem.W.Frag} {F H : Hp} (ex : Same F H) : ∀ {v : V} {d : D}, Is K F v d → d.nod = true → Dp K H v d.py
  | _, _, .non, _ => .non
  | _, _, .bl b, _ => .bl b
  | _, _, .int i, _ => .int i
  | _, _, .str s, _ => .str s
  | _, _, .lst e l, h => .lst (SqL.of (ex _ _ e)) (IsL.dp ex l (by simpa only [D.nod] using h))
  | _, _, .fls e l, h => .lst (sql_up (Up.of ex) e) (IsL.dp ex l (by simpa only [D.nod] using h))
  | _, _, .tup e l, h => .tup (sqt_up (Up.of ex) e) (IsL.dp ex l (by simpa only [D.nod] using h))
  | _, _, .dct e l, h => by simp only [D.nod] at h; cases h
  | _, _, .ins e l, h => by simp only [D.nod] at h; cases h
  | _, _, .fn e, h => by simp only [D.nod] at h; cases h
theorem IsL.dp {K : PySem.W.Frag} {F H : Hp} (ex : Same F H) : ∀ {v : List V} {d : List D}, IsL K F v d → D.nods d = true → DpAll K H v (D.pys d)
  | _, _, .nil, _ => .nil
  | _, _, .cons a b, h => by
    simp only [D.nods, Bool.and_eq_true] at h
    exact .cons (Is.dp ex a h.1) (IsL.dp ex b h.2)
end
/-- what can be compared -/
def Cmps (d : D) : Prop := d.nod = true ∧ SeqAt.shaped d.py = true
theorem dE_eqD (hu : X.A.units + 64 < cLine) (h : dE X a Γ fun x Γ1 => dE X b Γ1 fun y Γ2 => Cmps x ∧ Cmps y ∧ P (.bl (PyData.eqv x.py y.py)) Γ2) : dE X (.Compare a [.Eq] [b] pos) Γ P :=
  dE_bin (pe_cmpR (op_eqD hu) peW peW (nomark _)) (dE_mono h fun x Γ1 hb => dE_mono hb fun y Γ2 ⟨cx, cy, k⟩ => by
    refine ⟨fun w => w = .bl (PyData.eqv x.py y.py), ?_, fun z e => e ▸ k⟩
    intro v u F H Q iv iu ex hq
    exact ⟨_, _, Is.dp ex iv cx.1, Is.dp ex iu cy.1, cx.2, cy.2, hq _ _ F H rfl (.refl ex) (.bl _)⟩)
theorem dE_neD (hu : X.A.units + 64 < cLine) (h : dE X a Γ fun x Γ1 => dE X b Γ1 fun y Γ2 => Cmps x ∧ Cmps y ∧ P (.bl (!PyData.eqv x.py y.py)) Γ2) : dE X (.Compare a [.NotEq] [b] pos) Γ P :=
  dE_bin (pe_cmpR (op_neD hu) peW peW (nomark _)) (dE_mono h fun x Γ1 hb => dE_mono hb fun y Γ2 ⟨cx, cy, k⟩ => by
    refine ⟨fun w => w = .bl (!PyData.eqv x.py y.py), ?_, fun z e => e ▸ k⟩
    intro v u F H Q iv iu ex hq
    exact ⟨_, _, Is.dp ex iv cx.1, Is.dp ex iu cy.1, cx.2, cy.2, hq _ _ F H rfl (.refl ex) (.bl _)⟩)
/-- xs != e, xs held by its name alone -/
theorem dE_neO {x : Str} {i : Nat} {px : Pos} {w : V} {o : O} (hu : X.A.units + 64 < cLine) (hi : Γ[i]? = some (.ow w o)) (h : dE X b Γ fun y Γ1 => ∃ ds, Γ1[i]? = some (.ow w (oL ds)) ∧ Cmps (.lst ds) ∧ Cmps y ∧ P (.bl (!PyData.eqv (D.lst ds).py y.py)) Γ1)
    (hN : X.N[i]? = some x := by rfl) (hv : Vis X.env.scope x := by first | exact Or.inl rfl | exact Or.inr (Or.inl rfl) | exact Or.inr (Or.inr rfl)) (hd : (x == ("__debug__" : Str)) = false := by decide)
    (hcd : (x == ("__classdict__" : Str)) = false := by decide) : dE X (.Compare (.Name x px) [.NotEq] [b] pos) Γ P := by
  refine ⟨?_⟩
  intro B σ F H Q hh hq
  refine e_of (pe_cmpR (op_neD hu) (pe_var hN hv hd hcd) peW (nomark _)) ⟨w, hh.ow_val hi, h B σ F H _ hh ?_⟩
  rintro u y Γ1 F1 H1 ⟨ds, g, cx, cy, r⟩ s1 h1 i1
  obtain ⟨q, vs, rfl, es, hq', il, _⟩ := h1.getL g
  have d1 : Dp X.K H1 (.ref q) (D.lst ds).py := by
    have := IsL.dp h1.ex il (by simpa only [D.nod] using cx.1)
    simp only [D.py]
    exact .lst (SqL.of hq') this
  exact ⟨_, _, d1, Is.dp h1.ex i1 cy.1, cx.2, cy.2, hq _ _ Γ1 F1 H1 r s1 h1 (.bl _)⟩
end
end Nd
/-! Part 9: chained tests, calls by a bundle, small helps for the walk. -/
namespace Nd
open PySem PySem.Spec L2
open PyProof.Rows hiding St
variable [Tb]
section
variable {X : Cx} {Γ : Ga} {P : D → Ga → Prop} {R : Bool → Ga → Prop} {a b c e : Expr} {es : List Expr} {pos p : Pos} {x : Str}
theorem dT_chain {op op' : CmpOp} {g g' : Int → Int → Bool} (ho : OpR X (compareOp op) (rI0 fun i j => .bl (g i j))) (ho' : OpR X (compareOp op') (rI0 fun i j => .bl (g' i j)))
    (h : dE X a Γ fun x Γ1 => dE X b Γ1 fun y Γ2 => I2 (fun i j => (g i j = true → dE X c Γ2 fun z Γ3 => ∃ k, z = .int k ∧ R (g' j k) Γ3) ∧ (g i j = false → R false Γ2)) x y)
    (hm : lastMarks [op, op'] [b, c] = false := by with_unfolding_all rfl) : dT X (.Compare a [op, op'] [b, c] pos) Γ R := by
  refine ⟨?_⟩
  intro B σ F H Q hh hq
  refine t_of (pt_chain ho ho' peW peW peW hm) (h B σ F H _ hh ?_)
  intro v x Γ1 F1 H1 hb s1 h1 i1
  refine hb B σ F1 H1 _ h1 ?_
  rintro u y Γ2 F2 H2 ⟨i, j, rfl, rfl, k1, k2⟩ s2 h2 i2
  cases i1; cases i2
  refine ⟨i, j, rfl, rfl, g i j, rfl, ?_⟩
  cases hg : g i j with
  | true =>
    refine iteT (k1 hg B σ F2 H2 _ h2 ?_)
    rintro w z Γ3 F3 H3 ⟨k, rfl, p⟩ s3 h3 i3
    cases i3
    exact ⟨j, k, rfl, rfl, _, rfl, hq _ Γ3 F3 H3 p ((s1.trans s2).trans s3) h3⟩
  | false => exact iteF ⟨_, rfl, hq _ Γ2 F2 H2 (k2 hg) (s1.trans s2) h2⟩
theorem dT_le2 (h : dE X a Γ fun x Γ1 => dE X b Γ1 fun y Γ2 => I2 (fun i j => (decide (i ≤ j) = true → dE X c Γ2 fun z Γ3 => ∃ k, z = .int k ∧ R (decide (j ≤ k)) Γ3) ∧ (decide (i ≤ j) = false → R false Γ2)) x y)
    (hm : lastMarks [.LtE, .LtE] [b, c] = false := by with_unfolding_all rfl) : dT X (.Compare a [.LtE, .LtE] [b, c] pos) Γ R := dT_chain op_le op_le h hm
theorem sT {A B : Prop} (h : A) : (true = true → A) ∧ (true = false → B) := ⟨fun _ => h, nofun⟩
theorem sF {A B : Prop} (h : B) : (false = true → A) ∧ (false = false → B) := ⟨nofun, fun _ => h⟩
theorem sT' {A B : Prop} (h : B) : (true = false → A) ∧ (true = true → B) := ⟨nofun, fun _ => h⟩
theorem sF' {A B : Prop} (h : A) : (false = false → A) ∧ (false = true → B) := ⟨fun _ => h, nofun⟩
end
/-- a def that stands under a name of the module -/
structure Fd (P : Program) (w : World) (K : PySem.W.Frag) (mg : Str → Option Value) (base : Heap) (x : Str) (k : Nat) (ps : List Str) (c : Ctr) : Prop where
  ex : ∃ f fd, mg x = some (.ref f) ∧ PySem.W.keepIn K (.ref f) = true ∧ Binds K fd ps [] ∧ FnG P w K mg base CX0 k f fd ps (spD K c)
structure FdN (P : Program) (w : World) (K : PySem.W.Frag) (mg : Str → Option Value) (base : Heap) (x : Str) (k : Nat) (ps : List Str) (c : CtN) : Prop where
  ex : ∃ f fd, mg x = some (.ref f) ∧ PySem.W.keepIn K (.ref f) = true ∧ Binds K fd ps [] ∧ FnG P w K mg base CX0 k f fd ps (spN K c)
/-- a def that is called by its parameters' names -/
structure Fk (P : Program) (w : World) (K : PySem.W.Frag) (mg : Str → Option Value) (base : Heap) (x : Str) (k : Nat) (ps ks : List Str) (perm : List Nat) (c : Ctr) : Prop where
  ex : ∃ f fd, mg x = some (.ref f) ∧ PySem.W.keepIn K (.ref f) = true ∧ KBn K fd ps 0 ks (fun _ ws => turnBy .none perm ws) (fun _ zs => turnBy .non perm zs) ∧ FnG P w K mg base CX0 k f fd ps (spD K c)
section
variable {X : Cx} {Γ : Ga} {P : D → Ga → Prop} {e : Expr} {es : List Expr} {pos p : Pos} {x : Str} {c : Ctr} {k n : Nat} {ps ks : List Str}
theorem dE_fn (G : Fd X.prog X.w X.K X.mg X.base x k ps c) (hr : Room n X.A) (hgd : X.A.guards = some []) (hn : k ≤ n)
    (h : dA X (e :: es) Γ fun as Γ1 => ∃ (ds : List D) (y : c.α), as = ds.map Ar.d ∧ c.ins y = ds.map Sl.im ∧ c.ok y ∧ ∀ r o, c.post y r o → P r Γ1) (hg : Gl X x := by rfl) (hdb : (x == ("__debug__" : Str)) = false := by decide)
    (he : starEach (e :: es) X.env = (false, eval e X.env) :: starEach es X.env := by rfl) (hpl : (backTo pos (starEach es X.env)).any (·.1) = false := by rfl) : dE X (.Call (.Name x p) (e :: es) [] pos) Γ P := by
  obtain ⟨f, fd, hm, hk, hb, F⟩ := G.ex
  exact dE_call F (hr.mono hn) hgd hm hk hb h hg hdb he hpl
theorem dN_fn {c : CtN} {PN : List D → Ga → Prop} (G : FdN X.prog X.w X.K X.mg X.base x k ps c) (hr : Room n X.A) (hgd : X.A.guards = some []) (hn : k ≤ n)
    (h : dA X (e :: es) Γ fun as Γ1 => ∃ (ds : List D) (y : c.α), as = ds.map Ar.d ∧ c.ins y = ds.map Sl.im ∧ c.ok y ∧ ∀ r o, c.post y r o → PN r Γ1) (hg : Gl X x := by rfl) (hdb : (x == ("__debug__" : Str)) = false := by decide)
    (he : starEach (e :: es) X.env = (false, eval e X.env) :: starEach es X.env := by rfl) (hpl : (backTo pos (starEach es X.env)).any (·.1) = false := by rfl) : dN X (.Call (.Name x p) (e :: es) [] pos) Γ PN := by
  obtain ⟨f, fd, hm, hk, hb, F⟩ := G.ex
  exact dN_call F (hr.mono hn) hgd hm hk hb h hg hdb he hpl
theorem dE_fnO (G : Fd X.prog X.w X.K X.mg X.base x k ps c) (hr : Room n X.A) (hgd : X.A.guards = some []) (hn : k ≤ n)
    (h : dA X (e :: es) Γ fun as Γ1 => ∃ (i : Nat) (ds : List D) (y : c.α) (v : V) (t : O), as = .s i :: ds.map Ar.d ∧ Γ1[i]? = some (.ow v t) ∧ c.ins y = .ow v t :: ds.map Sl.im ∧ c.ok y ∧ ∀ r o, c.post y r o → ∃ t' os, o = .ow v t' :: os ∧ P r (Γ1.set i (.ow v t')))
    (hg : Gl X x := by rfl) (hdb : (x == ("__debug__" : Str)) = false := by decide)
    (he : starEach (e :: es) X.env = (false, eval e X.env) :: starEach es X.env := by rfl) (hpl : (backTo pos (starEach es X.env)).any (·.1) = false := by rfl) : dE X (.Call (.Name x p) (e :: es) [] pos) Γ P := by
  obtain ⟨f, fd, hm, hk, hb, F⟩ := G.ex
  exact dE_callO F (hr.mono hn) hgd hm hk hb h hg hdb he hpl
theorem dE_fnK {kws : List Keyword} {perm : List Nat} (G : Fk X.prog X.w X.K X.mg X.base x k ps ks perm c) (hr : Room n X.A) (hgd : X.A.guards = some []) (hn : k ≤ n)
    (h : dK X kws Γ fun ds Γ1 => ds.length = ks.length ∧ ∃ y : c.α, c.ins y = (turnBy .non perm ds).map Sl.im ∧ c.ok y ∧ ∀ r o, c.post y r o → P r Γ1) (hg : Gl X x := by rfl)
    (hall : (backToKw pos (keywordEach kws X.env)).all (·.1.isSome) = true := by rfl)
    (hks : (backToKw pos (keywordEach kws X.env)).filterMap (·.1) = ks := by rfl) (hdb : (x == ("__debug__" : Str)) = false := by decide)
    (hpl : ((backTo pos (starEach [] X.env)).any (·.1) || (backToKw pos (keywordEach kws X.env)).any (·.1.isNone)) = false := by rfl) : dE X (.Call (.Name x p) [] kws pos) Γ P := by
  obtain ⟨f, fd, hm, hk, hb, F⟩ := G.ex
  exact dE_callK perm F (hr.mono hn) hgd hm hk hb h hg hall hks hdb hpl
end
/-- the scope of a comprehension's block -/
def blkChk (N : List Str) (sc scope : Scope) (own : List (Str × Nat)) : Bool :=
  decide (scope.kind = .function) && scope.names.all (fun y => decide (scope.names.lookup y.1 = some y.2)) && own.all (fun p => decide (N[p.2]? = some p.1))
    && scope.names.all (fun y => decide (y.2 = .free → sc.names.lookup y.1 = some .cell ∨ sc.names.lookup y.1 = some .free))
    && scope.names.all (fun y => decide (y.2 = .local ∨ y.2 = .cell → y.1 ∈ own.map (·.1) ∨ y.1 ∉ N))
theorem blk {N : List Str} {sc scope : Scope} {own : List (Str × Nat)} (h : blkChk N sc scope own = true) : BlkOk N sc scope own := by
  simp only [blkChk, Bool.and_eq_true, List.all_eq_true, decide_eq_true_eq] at h
  obtain ⟨⟨⟨⟨h1, h2⟩, h3⟩, h4⟩, h5⟩ := h
  exact ⟨h1, h2, h3, h4, h5⟩
def subChk (N : List Str) (tg : Expr) (vs : List Nat) : Bool := (tS N tg).all fun t => decide (t ∈ vs)
theorem sub {N : List Str} {tg : Expr} {vs : List Nat} (h : subChk N tg vs = true) : ∀ t, t ∈ tS N tg → t ∈ vs := fun t m => by
  have := List.all_eq_true.mp h t m
  exact of_decide_eq_true this
section
variable {X : Cx} {Γ : Ga} {P : D → Ga → Prop} {PN : List D → Ga → Prop} {e : Expr} {pos p : Pos}
theorem wipe2 (Γ : Ga) (vs : List Nat) : wipeG (wipeG Γ vs) vs = wipeG Γ vs := wipeG_idem Γ vs
theorem dI_mono {tg iter : Expr} {A B : List D → Ga → Prop} (h : dI X tg iter Γ A) (k : ∀ xs Γ1, A xs Γ1 → B xs Γ1) : dI X tg iter Γ B := .mk fun C σ F H R hh hq => h C σ F H R hh fun J items Γ1 F1 H1 p => hq J items Γ1 F1 H1 (k items Γ1 p)
theorem dG_mono {tg : Expr} {d : D} {A B : Ga → Prop} (h : dG X tg d Γ A) (k : ∀ Γ1, A Γ1 → B Γ1) : dG X tg d Γ B := .mk fun C σ F H v Q hh iv hq => h C σ F H v Q hh iv fun σ' Γ' p => hq σ' Γ' (k Γ' p)
theorem dTs_mono {ifs : List Expr} {A B : Bool → Ga → Prop} (h : dTs X ifs Γ A) (k : ∀ t Γ1, A t Γ1 → B t Γ1) : dTs X ifs Γ B := .mk fun C σ F H Q hh hq => h C σ F H Q hh fun t Γ' F' H' p => hq t Γ' F' H' (k t Γ' p)
/-- [elt for tg in iter if c], c and elt by plain functions, nothing changed -/
def LcFl (X : Cx) (scope : Scope) (tg : Expr) (ifs : List Expr) (elt : Expr) (vs : List Nat) (β : Type) (items : List D) (Γ1 : Ga) (PN : List D → Ga → Prop) : Prop :=
  ∃ (us : List β) (c g : β → D) (q : β → Bool), items = us.map c ∧ us.length ≤ 1000000 ∧ (∀ u, u ∈ us → ∀ s0 H0 C cl fp, dG (X.blk s0 H0 scope (compEnvC scope cl C X.env) fp) tg (c u) (wipeG Γ1 vs) fun Γ3 =>
      ∀ s0 H0 C cl fp, dTs (X.blk s0 H0 scope (compEnvC scope cl C X.env) fp) ifs Γ3 fun t Γ4 => t = q u ∧ (t = true → ∀ s0 H0 C cl fp, dE (X.blk s0 H0 scope (compEnvC scope cl C X.env) fp) elt Γ4 fun y Γ5 => y = g u ∧ wipeG Γ5 vs = wipeG Γ1 vs) ∧
        (t = false → wipeG Γ4 vs = wipeG Γ1 vs)) ∧ PN ((us.filter q).map g) (wipeG Γ1 vs)
theorem lcFl {scope : Scope} {tg : Expr} {ifs : List Expr} {elt : Expr} {vs : List Nat} {β : Type} {items : List D} {Γ1 : Ga} (h : LcFl X scope tg ifs elt vs β items Γ1 PN) :
    items.length ≤ 1000000 ∧ ∃ I : Nat → List D → Ga → Prop, I 0 [] (wipeG Γ1 vs) ∧ (∀ k acc d Γ2, items[k]? = some d → acc.length ≤ k → I k acc Γ2 → LcTurn X scope tg ifs elt vs I k acc d Γ2) ∧ ∀ acc Γ2, I items.length acc Γ2 → PN acc (wipeG Γ2 vs) := by
  obtain ⟨us, c, g, q, rfl, hl, ht, hp⟩ := h
  refine ⟨by rw [List.length_map]; exact hl, fun k acc Γ => Γ = wipeG Γ1 vs ∧ acc = ((us.take k).filter q).map g, ⟨rfl, rfl⟩, ?_, ?_⟩
  · rintro k acc d Γ2 hd _ ⟨rfl, rfl⟩
    rw [List.getElem?_map] at hd
    cases hu : us[k]? with
    | none => rw [hu] at hd; cases hd
    | some u =>
      rw [hu] at hd
      cases hd
      have tk : us.take (k + 1) = us.take k ++ [u] := by rw [List.take_add_one, hu]; rfl
      have hm : u ∈ us := List.mem_of_getElem? hu
      intro s0 H0 C cl fp
      refine dG_mono (ht u hm s0 H0 C cl fp) fun Γ3 h3 s0 H0 C cl fp => dTs_mono (h3 s0 H0 C cl fp) ?_
      rintro t Γ4 ⟨rfl, h4, h5⟩
      refine ⟨fun z s0 H0 C cl fp => dE_mono (h4 z s0 H0 C cl fp) ?_, fun z => ⟨h5 z, ?_⟩⟩
      · rintro y Γ5 ⟨rfl, e5⟩
        refine ⟨e5, ?_⟩
        rw [tk, List.filter_append, List.map_append]
        simp [z]
      · rw [tk, List.filter_append, List.map_append]
        simp [z]
  · rintro acc Γ2 ⟨rfl, rfl⟩
    rw [List.length_map, List.take_length, wipe2]
    exact hp
theorem dN_fl (β : Type) {elt tg iter : Expr} {ifs : List Expr} {scope : Scope} (own : List (Str × Nat)) (hc : X.calm = true) (hN : X.N.Nodup) (ok : BlkOk X.N X.env.scope scope own)
    (hsub : ∀ t, t ∈ tS X.N tg → t ∈ own.map (·.2)) (h : dI X tg iter Γ fun items Γ1 => LcFl X scope tg ifs elt (own.map (·.2)) β items Γ1 PN) (hs : ∀ x, foldedSetIterable iter X.env x = pure x := by intro _; rfl) :
    dN X (.ListComp elt [⟨tg, iter, ifs, 0⟩] scope pos) Γ PN := dN_lc own hc hN ok hsub (dI_mono h fun _ _ => lcFl) hs
theorem filter_tt {β : Type} (us : List β) : us.filter (fun _ => true) = us := List.filter_eq_self.mpr fun _ _ => rfl
def LcMp (X : Cx) (scope : Scope) (tg : Expr) (elt : Expr) (vs : List Nat) (β : Type) (items : List D) (Γ1 : Ga) (PN : List D → Ga → Prop) : Prop :=
  ∃ (us : List β) (c g : β → D), items = us.map c ∧ us.length ≤ 1000000 ∧ (∀ u, u ∈ us → ∀ s0 H0 C cl fp, dG (X.blk s0 H0 scope (compEnvC scope cl C X.env) fp) tg (c u) (wipeG Γ1 vs) fun Γ3 =>
      ∀ s0 H0 C cl fp, dE (X.blk s0 H0 scope (compEnvC scope cl C X.env) fp) elt Γ3 fun y Γ5 => y = g u ∧ wipeG Γ5 vs = wipeG Γ1 vs) ∧ PN (us.map g) (wipeG Γ1 vs)
theorem lcMp {scope : Scope} {tg : Expr} {elt : Expr} {vs : List Nat} {β : Type} {items : List D} {Γ1 : Ga} (h : LcMp X scope tg elt vs β items Γ1 PN) : LcFl X scope tg [] elt vs β items Γ1 PN := by
  obtain ⟨us, c, g, rfl, hl, ht, hp⟩ := h
  refine ⟨us, c, g, fun _ => true, rfl, hl, fun u m s0 H0 C cl fp => dG_mono (ht u m s0 H0 C cl fp) fun Γ3 h3 s0 H0 C cl fp => dTs_nil ⟨rfl, fun _ => h3, nofun⟩, ?_⟩
  rw [filter_tt]
  exact hp
theorem dN_mp (β : Type) {elt tg iter : Expr} {scope : Scope} (own : List (Str × Nat)) (hc : X.calm = true) (hN : X.N.Nodup) (ok : BlkOk X.N X.env.scope scope own)
    (hsub : ∀ t, t ∈ tS X.N tg → t ∈ own.map (·.2)) (h : dI X tg iter Γ fun items Γ1 => LcMp X scope tg elt (own.map (·.2)) β items Γ1 PN) (hs : ∀ x, foldedSetIterable iter X.env x = pure x := by intro _; rfl) :
    dN X (.ListComp elt [⟨tg, iter, [], 0⟩] scope pos) Γ PN := dN_fl β own hc hN ok hsub (dI_mono h fun _ _ => lcMp) hs
theorem dE_allP (hc : X.calm = true) (hm : X.mg "all" = none) (h : dE X e Γ fun d Γ1 => ∃ (β : Type) (us : List β) (q : β → Bool), d = .lst (us.map fun u => .bl (q u)) ∧ P (.bl (us.all q)) Γ1) (hg : Gl X "all" := by rfl)
    (hs : starEach [e] X.env = [(false, eval e X.env)] := by rfl) (hpl : (backTo pos (starEach [] X.env)).any (·.1) = false := by rfl) : dE X (.Call (.Name "all" p) [e] [] pos) Γ P := by
  refine dE_all hc hm (dE_mono h ?_) hg hs hpl
  rintro d Γ1 ⟨β, us, q, rfl, k⟩
  refine ⟨us.map q, by rw [List.map_map]; rfl, ?_⟩
  rw [List.all_map]
  exact k
theorem dS_setFl (β : Type) {P : Ou} {elt tg iter : Expr} {ifs : List Expr} {scope : Scope} {i : Nat} {y : Str} {py spos : Pos} (own : List (Str × Nat)) (hc : X.calm = true) (hN : X.N.Nodup) (ok : BlkOk X.N X.env.scope scope own)
    (hsub : ∀ t, t ∈ tS X.N tg → t ∈ own.map (·.2))
    (h : dI X tg iter Γ fun items Γ1 => LcFl X scope tg ifs elt (own.map (·.2)) β items Γ1 fun acc Γ2 => P.nx (Γ2.set i (.im (.lst acc)))) (hsw : swapsWith (.ListComp elt [⟨tg, iter, ifs, 0⟩] scope pos) (some (.Name y py)) spos.line X.env = pure true := by rfl)
    (hy : X.N[i]? = some y := by rfl) (hyl : X.env.scope.names.lookup y = some .local := by rfl) (hs : ∀ x, foldedSetIterable iter X.env x = pure x := by intro _; rfl) : dS X (.Assign [.Name y py] (.ListComp elt [⟨tg, iter, ifs, 0⟩] scope pos) spos) Γ P :=
  dS_setLc own hc hN ok hsub (dI_mono h fun _ _ => lcFl) hsw hy hyl hs
end
theorem cmp_test {M : Model} {A : Around} {env : Env} {E : Value → Shared → Prop} {s : Shared} {l r : Expr} {op : CmpOp} {pos : Pos} {whole : Sem Value} {Q : Bool → Shared → Prop}
    (h : wpAny M A (eval (.Compare l [op] [r] pos) env) (fun v s => wpAny M A (truthy v) Q E s) E s) : wpAny M A (isTrue (.Compare l [op] [r] pos) env whole) Q E s := fun Γ p hΓ => by
  have h' := h Γ p hΓ
  simp only [eval_Compare1, Sem.wp_bind', Sem.wp_holding, Sem.wp_cmd_standAt, Sem.wp_operate] at h'
  simp only [isTrue_Compare1, Sem.wp_bind', Sem.wp_holding, Sem.wp_cmd_standAt, Sem.wp_operate]
  refine Sem.wp_mono M Γ _ (fun a p₁ s₁ h₁ => Sem.wp_mono M Γ _ (fun b _ s₂ h₂ => Sem.wp_mono M Γ _ (fun c p₃ s₃ h₃ => h₃ Γ p₃ hΓ) (fun _ _ _ h' => h') _ _ h₂) (fun _ _ _ h' => h') _ _ h₁) (fun _ _ _ h' => h') _ _ h'
section
variable {X : Cx} {Γ : Ga} {R : Bool → Ga → Prop} {a b : Expr} {pos : Pos} {op : CmpOp}
theorem dT_cmp (h : dE X (.Compare a [op] [b] pos) Γ fun d Γ1 => ∃ k, d = .bl k ∧ R k Γ1) : dT X (.Compare a [op] [b] pos) Γ R := by
  refine ⟨?_⟩
  intro B σ F H Q hh hq pins s I
  refine cmp_test (thn (h B σ F H (fun x H' => ∃ k, x = .bl k ∧ Q k H') hh (fun v d Γ1 F1 H1 p s1 h1 i1 => ?_) pins s I) ?_)
  · obtain ⟨k, rfl, r⟩ := p
    cases i1
    exact ⟨k, rfl, hq k Γ1 F1 H1 r s1 h1⟩
  · rintro v s1 ⟨x, H1, I1, r1, k, rfl, q⟩
    cases r1
    exact wpAny_truthy_bool ⟨H1, I1, q⟩
end
/-! ### y = [.. for .. in d ..], the dict d locked -/
section
variable {X : Cx} {Γ : Ga} {PN : List D → Ga → Prop} {pos : Pos}
def nT (X : Cx) (t : TE) (Γ : Ga) (P : List D → Ga → Prop) : Prop := ∀ B σ F H (Q : VK), Hold X.K B Γ σ F H →
  (∀ p vs ds Γ' F' H', P ds Γ' → Same F F' → Hold X.K B Γ' σ F' H' → H' p = none → IsL X.K F' vs ds → Q (.ref p) (upd H' p (.lst vs))) → t σ H Q
theorem nT_lock {t : TE} {i : Nat} {kvs : List (Key × D)} (hi : Γ[i]? = some (.im (.dct kvs))) (nf : noFd Γ = true) (h : nT X t (Γ.set i (.fd kvs)) fun d Γ1 => Γ1[i]? = some (.fd kvs) ∧ noFd (Γ1.set i (.im (.dct kvs))) = true ∧ PN d (Γ1.set i (.im (.dct kvs)))) : nT X (fun σ H Q => t σ H Q ∨ tLockE t σ H Q) Γ PN := by
  intro B σ F H Q hh hq
  obtain ⟨v, es, iv⟩ := hh.get hi
  cases iv with
  | dct rd il =>
    rename_i a vs
    rcases rd with ea | ⟨o, ea⟩
    · refine .inr ⟨a, .dK vs, hh.ex _ _ ea, trivial, fun od => ?_⟩
      obtain ⟨ft, hf, q⟩ := hh.lock nf ea od
      have q2 := q.setF (i := i) es upd_same (il.up (up_lock ea))
      refine h _ σ _ _ _ q2 ?_
      rintro p ws d Γ1 F1 H1 ⟨g1, g2, r⟩ s1 h1 hp i1
      have eF : F1 a = some (.frz od (.dK vs)) := s1 a _ upd_same
      have hI : Is X.K F1 (.ref a) (.dct kvs) := .dct (.inr ⟨od, eF⟩) ((il.up (up_lock ea)).up (Up.of s1))
      have h1' := h1.setI (i := i) es hI
      obtain ⟨e1, e2, sf, h2⟩ := hh.unlock ea hf h1' g2
      have pa : a ≠ p := ne_of_none e2 hp
      refine ⟨by rw [upd_ne pa]; exact e2, ?_⟩
      have hp2 : (upd H1 a (.dK vs)) p = none := by rw [upd_ne pa.symm]; exact hp
      have comm : upd (upd H1 p (.lst ws)) a (.dK vs) = upd (upd H1 a (.dK vs)) p (.lst ws) := by
        funext b
        by_cases z : b = a
        · subst z; rw [upd_same, upd_ne pa, upd_same]
        · by_cases y : b = p
          · subst y; rw [upd_ne z, upd_same, upd_same]
          · rw [upd_ne z, upd_ne y, upd_ne y, upd_ne z]
      rw [comm]
      exact hq p ws d _ _ _ r sf h2 hp2 (i1.up (up_unlock e1))
    · have q2 := hh.setF (i := i) es ea il
      refine .inl (h B σ F H Q q2 ?_)
      rintro p ws d Γ1 F1 H1 ⟨g1, g2, r⟩ s1 h1 hp i1
      exact hq p ws d _ F1 H1 r s1 (h1.setI es (.dct (.inr ⟨o, s1 _ _ ea⟩) (il.up (Up.of s1)))) hp i1
theorem dS_setLcL {P : Ou} {elt tg iter : Expr} {ifs : List Expr} {scope : Scope} {i j : Nat} {y : Str} {py spos : Pos} {kvs : List (Key × D)} (hj : Γ[j]? = some (.im (.dct kvs))) (nf : noFd Γ = true) (own : List (Str × Nat)) (hc : X.calm = true) (hN : X.N.Nodup) (ok : BlkOk X.N X.env.scope scope own)
    (hsub : ∀ t, t ∈ tS X.N tg → t ∈ own.map (·.2))
    (h : dI X tg iter (Γ.set j (.fd kvs)) fun items Γ1 => items.length ≤ 1000000 ∧ ∃ I : Nat → List D → Ga → Prop, I 0 [] (wipeG Γ1 (own.map (·.2))) ∧ (∀ k acc d Γ2, items[k]? = some d → acc.length ≤ k → I k acc Γ2 → LcTurn X scope tg ifs elt (own.map (·.2)) I k acc d Γ2) ∧
      ∀ acc Γ2, I items.length acc Γ2 → (wipeG Γ2 (own.map (·.2)))[j]? = some (.fd kvs) ∧ noFd ((wipeG Γ2 (own.map (·.2))).set j (.im (.dct kvs))) = true ∧ P.nx (((wipeG Γ2 (own.map (·.2))).set j (.im (.dct kvs))).set i (.im (.lst acc))))
    (hsw : swapsWith (.ListComp elt [⟨tg, iter, ifs, 0⟩] scope pos) (some (.Name y py)) spos.line X.env = pure true := by rfl)
    (hy : X.N[i]? = some y := by rfl) (hyl : X.env.scope.names.lookup y = some .local := by rfl) (hs : ∀ x, foldedSetIterable iter X.env x = pure x := by intro _; rfl) : dS X (.Assign [.Name y py] (.ListComp elt [⟨tg, iter, ifs, 0⟩] scope pos) spos) Γ P := by
  refine ⟨?_⟩
  intro B σ F H E hh hq
  have ps := ps_setLc (own := own) (wi := wI X tg iter) (g := bG X scope tg) (tt := bT X scope ifs) (te := bE X scope elt) (pos := pos) (py := py) (spos := spos)
    hc hN hy hyl hsw piW ok (fun s0 H0 C cl fp => ⟨fun pins s σ H v u Q I r z => z s0 H0 C cl fp pins s u I r⟩) (fun s0 H0 C cl fp => ⟨fun pins s σ H Q I z => z s0 H0 C cl fp pins s I⟩)
    (fun s0 H0 C cl fp => ⟨fun pins s σ H Q I z => z s0 H0 C cl fp pins s I⟩) hs
  have n : nT X (tLc (wI X tg iter) (bG X scope tg) (bT X scope ifs) (bE X scope elt) (own.map (·.2))) (Γ.set j (.fd kvs)) fun acc Γ2 => Γ2[j]? = some (.fd kvs) ∧ noFd (Γ2.set j (.im (.dct kvs))) = true ∧ P.nx ((Γ2.set j (.im (.dct kvs))).set i (.im (.lst acc))) := by
    intro B σ F H Q hh hq
    refine h B σ F H _ hh ?_
    rintro J items Γ1 F1 H1 ⟨hlen, I, i0, turn, last⟩ s1 h1 wk Dl hD
    exact lc_run hsub hlen i0 turn h1 wk hD fun acc av Γ2 F' H' ik f h' hn il => hq Dl av acc _ F' H' (last acc Γ2 ik) (s1.trans f) h' hn il
  have k := nT_lock (PN := fun acc Γ2 => P.nx (Γ2.set i (.im (.lst acc)))) hj nf n B σ F H (fun x H1 => E.nx (σ.set i (some x)) H1) hh fun p vs ds Γ' F' H' r f h' hn il => by
    have st : Stp F' H' (upd F' p (.lst vs)) (upd H' p (.lst vs)) := .new h'.ex hn
    exact hq.nx _ _ _ _ r (f.trans st.f) ((h'.stp st).set (.lst upd_same (il.up (Up.of st.f))))
  rcases k with z | z
  · exact s_of ps z
  · exact s_of (ps_lock ps) z
theorem dS_setFlL (β : Type) {P : Ou} {elt tg iter : Expr} {ifs : List Expr} {scope : Scope} {i j : Nat} {y : Str} {py spos : Pos} {kvs : List (Key × D)} (hj : Γ[j]? = some (.im (.dct kvs))) (nf : noFd Γ = true) (own : List (Str × Nat)) (hc : X.calm = true) (hN : X.N.Nodup) (ok : BlkOk X.N X.env.scope scope own)
    (hsub : ∀ t, t ∈ tS X.N tg → t ∈ own.map (·.2))
    (h : dI X tg iter (Γ.set j (.fd kvs)) fun items Γ1 => LcFl X scope tg ifs elt (own.map (·.2)) β items Γ1 fun acc Γ2 => Γ2[j]? = some (.fd kvs) ∧ noFd (Γ2.set j (.im (.dct kvs))) = true ∧ P.nx ((Γ2.set j (.im (.dct kvs))).set i (.im (.lst acc))))
    (hsw : swapsWith (.ListComp elt [⟨tg, iter, ifs, 0⟩] scope pos) (some (.Name y py)) spos.line X.env = pure true := by rfl)
    (hy : X.N[i]? = some y := by rfl) (hyl : X.env.scope.names.lookup y = some .local := by rfl) (hs : ∀ x, foldedSetIterable iter X.env x = pure x := by intro _; rfl) : dS X (.Assign [.Name y py] (.ListComp elt [⟨tg, iter, ifs, 0⟩] scope pos) spos) Γ P :=
  dS_setLcL hj nf own hc hN ok hsub (dI_mono h fun _ _ => lcFl) hsw hy hyl hs
end
end Nd
/-! Part 10: a cut between statements; texts and lists that repr takes. -/
namespace Nd
open PySem PySem.Spec L2
open PyProof.Rows hiding St
variable [Tb]
section
variable {X : Cx} {Γ : Ga} {P : Ou} {st : Stmt} {rest : List Stmt}
theorem dSs_cut (J : Ga → Prop) (h : dS X st Γ { P with nx := J }) (k : ∀ Γ1, J Γ1 → dSs X rest Γ1 P) : dSs X (st :: rest) Γ P :=
  dSs_cons (.mk fun B σ F H E hh hq => h B σ F H E hh ⟨fun σ' Γ' F' H' j => hq.nx σ' Γ' F' H' (k Γ' j), hq.rt, hq.bk, hq.ct, hq.rn⟩)
end
/-- texts that may be laid -/
def okS (s : Str) : Bool := s.cps.toList.all fun c => decide (c < 0x110000)
theorem okS_strOk {s : Str} (h : okS s = true) : PyData.strOk s = true := by
  unfold PyData.strOk
  unfold okS at h
  rw [List.all_eq_true] at h
  rw [Array.all_eq_true_iff_forall_mem]
  intro c hc
  exact h c (Array.mem_toList_iff.mpr hc)
theorem strs_lay : ∀ {ss : List Str}, (∀ s ∈ ss, okS s = true) → PyData.canLayAll0 (D.pys (ss.map D.str)) = true
  | [], _ => rfl
  | s :: ss, h => by
    simp only [List.map_cons, D.pys, D.py, PyData.canLayAll0, PyData.canLay0, Bool.and_eq_true]
    exact ⟨okS_strOk (h s List.mem_cons_self), strs_lay fun x hx => h x (List.mem_cons_of_mem _ hx)⟩
theorem strs_depth : ∀ (ss : List Str), PyData.depthAll (D.pys (ss.map D.str)) = 0
  | [] => rfl
  | s :: ss => by
    simp only [List.map_cons, D.pys, D.py, PyData.depthAll, PyData.depth, strs_depth ss]
    rfl
theorem strs_nod : ∀ (ss : List Str), D.nods (ss.map D.str) = true
  | [] => rfl
  | s :: ss => by simp only [List.map_cons, D.nods, D.nod, strs_nod ss, Bool.and_self]
theorem cmps_lst {ss : List Str} (h : ∀ s ∈ ss, okS s = true) : Cmps (.lst (ss.map D.str)) := by
  refine ⟨by simp only [D.nod]; exact strs_nod ss, ?_⟩
  simp only [D.py, SeqAt.shaped, PyData.canLay0, PyData.depth, strs_depth, strs_lay h, Bool.true_and]
  rfl
theorem cmps_tup {ss : List Str} (h : ∀ s ∈ ss, okS s = true) : Cmps (.tup (ss.map D.str)) := by
  refine ⟨by simp only [D.nod]; exact strs_nod ss, ?_⟩
  simp only [D.py, SeqAt.shaped, PyData.canLay0, PyData.depth, strs_depth, strs_lay h, Bool.true_and]
  rfl
theorem cmps_eqv {d : D} (h : Cmps d) : PyData.eqv d.py d.py = true := SeqAt.eqv_refl _ (SeqAt.canLay_of_shaped h.2)
theorem strs_weight {B : Nat} : ∀ {ss : List Str}, (∀ s ∈ ss, s.length ≤ B) → PyData.weightAll (D.pys (ss.map D.str)) ≤ (B + 1) * ss.length
  | [], _ => by simp [D.pys, PyData.weightAll]
  | s :: ss, h => by
    simp only [List.map_cons, D.pys, D.py, PyData.weightAll, PyData.weight, List.length_cons]
    have h1 := strs_weight fun x hx => h x (List.mem_cons_of_mem _ hx)
    have h2 : s.cps.size ≤ B := h s List.mem_cons_self
    rw [Nat.mul_add]
    omega
theorem strs_show : ∀ (ss : List Str), PyData.showableAll (D.pys (ss.map D.str)) = true
  | [] => rfl
  | s :: ss => by simp only [List.map_cons, D.pys, D.py, PyData.showableAll, PyData.showable, strs_show ss, Bool.and_self]
theorem strs_ints : ∀ (ss : List Str), PyData.intsShortAll 13 (D.pys (ss.map D.str)) = true
  | [] => rfl
  | s :: ss => by simp only [List.map_cons, D.pys, D.py, PyData.intsShortAll, PyData.intsShort, strs_ints ss, Bool.and_self]
theorem shows_of {d : D} (hn : d.nod = true) (h1 : d.py.showable = true) (h2 : d.py.canLay0 = true) (h3 : d.py.depth ≤ 60) (h4 : d.py.weight ≤ 2 ^ 20) (h5 : d.py.intsShort 13 = true) : Shows d :=
  ⟨h1, PyData.shown_fits_of_layable0 (B := 13) (by omega) (by omega) (by simp only [PyData.layable0, h2, Bool.true_and, Bool.and_eq_true, decide_eq_true_eq]; omega) h5, h3, .inl hn⟩
/-- a pair of tuples of short texts -/
theorem shows_tups {ss ts : List Str} (h1 : ∀ s ∈ ss, okS s = true ∧ s.length ≤ 100) (h2 : ∀ s ∈ ts, okS s = true ∧ s.length ≤ 100) (l1 : ss.length ≤ 1000) (l2 : ts.length ≤ 1000) : Shows (.lst [.tup (ss.map D.str), .tup (ts.map D.str)]) := by
  have w1 := strs_weight (B := 100) fun s m => (h1 s m).2
  have w2 := strs_weight (B := 100) fun s m => (h2 s m).2
  refine shows_of ?_ ?_ ?_ ?_ ?_ ?_
  · simp only [D.nod, D.nods, strs_nod, Bool.and_self]
  · simp only [D.py, D.pys, PyData.showable, PyData.showableAll, strs_show, Bool.and_self]
  · simp only [D.py, D.pys, PyData.canLay0, PyData.canLayAll0, strs_lay fun s m => (h1 s m).1, strs_lay fun s m => (h2 s m).1, Bool.and_self]
  · simp only [D.py, D.pys, PyData.depth, PyData.depthAll, strs_depth]
    omega
  · simp only [D.py, D.pys, PyData.weight, PyData.weightAll]
    omega
  · simp only [D.py, D.pys, PyData.intsShort, PyData.intsShortAll, strs_ints, Bool.and_self]
end Nd
/-! Part 11: what the program's top has left, and the end. -/
namespace Nd
open PySem PySem.Spec L2
open PyProof.Rows hiding St
variable [Tb]
/-- a def of the program's top, under its name -/
structure Def (K : PySem.W.Frag) (x : Str) (st : Stmt) : Prop where
  ex : ∃ f fd, PySem.W.nsIn K mainGlobals x = some (some (.ref f)) ∧ Fun K x x st f fd
theorem defAt {K : PySem.W.Frag} {x : Str} {st : Stmt} {f : Addr} {oc : Value} {od an : Option Addr} {osl : Array (Option Value)} {kV doc pm cdv ct : Value} (a : PySem.W.nsIn K mainGlobals x = some (some (.ref f)))
    (l : K.lookup f = some ⟨oc, od, .func (PySem.W.fnOf x x (defArgs st) (defBody st) (defScope st) .none kV doc pm an cdv ct), osl⟩) (c : PySem.W.codeIn K cdv x = true) (k : PySem.W.keepIn K (.ref f) = true) : Def K x st :=
  ⟨f, _, a, fun_mk l c k⟩
section
variable {P : Program} {w : World} {K : PySem.W.Frag} {h : Heap} {mg : Str → Option Value} {base : Heap} {x : Str} {st : Stmt} {k : Nat} {ps ks : List Str}
theorem fd_of {c : Ctr} (X : K.In h) (G : h.Ns mainGlobals mg) (d : Def K x st)
    (hb : ∀ (kV doc pm : Value) (an : Option Addr) (cdv ct : Value) (us : List Value), us.length = ps.length → bindArgs (PySem.W.fnOf x x (defArgs st) (defBody st) (defScope st) .none kV doc pm an cdv ct) ⟨us, []⟩ = pure (ps.zip us))
    (ok : ∀ f fd, Fun K x x st f fd → FnG P w K mg base CX0 k f fd ps (spD K c)) : Fd P w K mg base x k ps c := by
  obtain ⟨f, fd, a, F⟩ := d.ex
  exact ⟨f, fd, PySem.W.mg_of X G a, F.kp, F.binds hb, ok f fd F⟩
theorem fdN_of {c : CtN} (X : K.In h) (G : h.Ns mainGlobals mg) (d : Def K x st)
    (hb : ∀ (kV doc pm : Value) (an : Option Addr) (cdv ct : Value) (us : List Value), us.length = ps.length → bindArgs (PySem.W.fnOf x x (defArgs st) (defBody st) (defScope st) .none kV doc pm an cdv ct) ⟨us, []⟩ = pure (ps.zip us))
    (ok : ∀ f fd, Fun K x x st f fd → FnG P w K mg base CX0 k f fd ps (spN K c)) : FdN P w K mg base x k ps c := by
  obtain ⟨f, fd, a, F⟩ := d.ex
  exact ⟨f, fd, PySem.W.mg_of X G a, F.kp, F.binds hb, ok f fd F⟩
theorem fk_of {c : Ctr} {perm : List Nat} (X : K.In h) (G : h.Ns mainGlobals mg) (d : Def K x st)
    (hb : ∀ (kV doc pm : Value) (an : Option Addr) (cdv ct : Value) (ws : List Value), ws.length = ks.length → bindArgs (PySem.W.fnOf x x (defArgs st) (defBody st) (defScope st) .none kV doc pm an cdv ct) ⟨[], ks.zip ws⟩ = pure (ps.zip (turnBy .none perm ws)))
    (ok : ∀ f fd, Fun K x x st f fd → FnG P w K mg base CX0 k f fd ps (spD K c)) : Fk P w K mg base x k ps ks perm c := by
  obtain ⟨f, fd, a, F⟩ := d.ex
  refine ⟨f, fd, PySem.W.mg_of X G a, F.kp, ?_, ok f fd F⟩
  obtain ⟨oc, od, kV, doc, pm, an, cdv, ct, osl, rfl, lk, hcd⟩ := F.ex
  exact kbn_of perm (hb kV doc pm an cdv ct)
end
theorem cI {K : PySem.W.Frag} {x : Str} {i : Int} {t : Tok} (h : PySem.W.nsIn K mainGlobals x = some (some (.int i t))) : ∃ t, PySem.W.nsIn K mainGlobals x = some (some (.int i t)) := ⟨t, h⟩
theorem cS {K : PySem.W.Frag} {x : Str} {i : Str} {t : Tok} (h : PySem.W.nsIn K mainGlobals x = some (some (.str i t))) : ∃ t, PySem.W.nsIn K mainGlobals x = some (some (.str i t)) := ⟨t, h⟩
/-- the law's own promise -/
abbrev cLaw : Ctr where
  α := List Int
  ins := fun ns => [.im (.fls (ns.map .int))]
  ok := fun ns => ns.length ≤ 1000000 ∧ ∀ z ∈ ns, Builtin.Int.intBits z ≤ 1048576
  post := fun _ r _ => r = .bl true
theorem walkL {l : PySem.W.OpenLaw} {n k : Nat} {q : Program} {loose : List Str} {XP : (Str → Option Value) → Heap → Prop} {YP : World → Heap → Prop} {d : DefRec}
    {K : Params → PySem.W.Frag} {x : Str} {st : Stmt} (hT : Tb.T = []) (hn : l.most = some n) (hn2 : n ≤ 1000000) (hdf : d.params.defaults = []) (hr : Room k callerA)
    (hY : ∀ (w : World) (h : Heap), YP w h → (K w.params).In h)
    (hbind : ∀ (kV doc pm : Value) (an : Option Addr) (cdv ct : Value) (s : Shared) (u : Value), BindsTo s (PySem.W.fnOf d.name d.name (defArgs st) (defBody st) (defScope st) .none kV doc pm an cdv ct) ⟨[u], []⟩ [(x, u)])
    (F : ∀ (w : World) (mg : Str → Option Value) (h : Heap), (K w.params).In h → h.Ns mainGlobals mg → Def (K w.params) d.name st ∧
      ∀ (base : Heap) (f : Addr) (fd : FuncData), Fun (K w.params) d.name d.name st f fd → FnG l.prog w (K w.params) mg base CX0 k f fd [x] (spD (K w.params) cLaw)) :
    PySem.W.WalkO q loose XP YP l.row.toRowW d [] (fun f vs => PySem.call f vs) := by
  refine walkG (sp := fun K => spD K cLaw) (x := x) hn (sz hn2) hdf hr hY (fun w mg fa h KX G hmg => ?_) fun K H a ns hl hb hO hS => ?_
  · obtain ⟨D, ok⟩ := F w mg h KX G
    obtain ⟨f, fd, a, Fn⟩ := D.ex
    have e := hmg.symm.trans (PySem.W.mg_of KX G a)
    cases e
    refine ⟨fd, ?_, fun base _ _ => ok base _ fd Fn⟩
    obtain ⟨oc, od, kV, doc, pm, an, cdv, ct, osl, rfl, lk, hcd⟩ := Fn.ex
    exact hbind kV doc pm an cdv ct
  · have il : IsL K H [.ref a] [.fls (ns.map .int)] := .cons (.fls hS (isL_ints ns)) .nil
    refine ⟨ns, H, fun _ => False, ⟨by omega, hb⟩, hold_args (.refl H) (fun q hq => by rw [hT] at hq; cases hq) il, ?_⟩
    rintro r o v F' H' rfl _ _ iv
    cases iv
    rfl
end Nd
namespace K53
open PySem PySem.Spec L2 Nd
open PyProof.Rows hiding St
variable [Tb]
def topS (i : Nat) : Stmt := PySem.Challenge.pw_newsdoors_k53_ways_and_what_is_below.main.body.getD i (.Pass ⟨0, 0, 0, 0⟩)
abbrev s_is_name : Stmt := topS 7
theorem sc_is_name : FnScope ["thing", "letter"] ["thing"] (defScope s_is_name) := ⟨rfl, rfl, rfl, by decide +kernel, rfl, by decide +kernel, by decide +kernel⟩
abbrev s_comes_up : Stmt := topS 10
theorem sc_comes_up : FnScope ["thing", "hall", "here", "turn"] ["thing", "hall"] (defScope s_comes_up) := ⟨rfl, rfl, rfl, by decide +kernel, rfl, by decide +kernel, by decide +kernel⟩
abbrev s_are_halls : Stmt := topS 11
theorem sc_are_halls : FnScope ["thing", "roots", "hall", "upper"] ["thing"] (defScope s_are_halls) := ⟨rfl, rfl, rfl, by decide +kernel, rfl, by decide +kernel, by decide +kernel⟩
abbrev s_need_halls : Stmt := topS 12
theorem sc_need_halls : FnScope ["halls"] ["halls"] (defScope s_need_halls) := ⟨rfl, rfl, rfl, by decide +kernel, rfl, by decide +kernel, by decide +kernel⟩
abbrev s_need_hall : Stmt := topS 13
theorem sc_need_hall : FnScope ["halls", "hall"] ["halls", "hall"] (defScope s_need_hall) := ⟨rfl, rfl, rfl, by decide +kernel, rfl, by decide +kernel, by decide +kernel⟩
abbrev s_top_of : Stmt := topS 14
theorem sc_top_of : FnScope ["halls", "first", "rest", "hall", "upper"] ["halls"] (defScope s_top_of) := ⟨rfl, rfl, rfl, by decide +kernel, rfl, by decide +kernel, by decide +kernel⟩
abbrev s_ways_of : Stmt := topS 15
theorem sc_ways_of : FnScope ["halls", "hall", "found"] ["halls", "hall"] (defScope s_ways_of) := ⟨rfl, rfl, rfl, by decide +kernel, rfl, by decide +kernel, by decide +kernel⟩
abbrev s_root_of : Stmt := topS 16
theorem sc_root_of : FnScope ["halls"] ["halls"] (defScope s_root_of) := ⟨rfl, rfl, rfl, by decide +kernel, rfl, by decide +kernel, by decide +kernel⟩
abbrev s_way_up : Stmt := topS 17
theorem sc_way_up : FnScope ["halls", "hall"] ["halls", "hall"] (defScope s_way_up) := ⟨rfl, rfl, rfl, by decide +kernel, rfl, by decide +kernel, by decide +kernel⟩
abbrev s_below : Stmt := topS 18
theorem sc_below : FnScope ["halls", "hall", "other"] ["halls", "hall"] (defScope s_below) := ⟨rfl, rfl, rfl, by decide +kernel, rfl, by decide +kernel, by decide +kernel⟩
abbrev s_between : Stmt := topS 19
theorem sc_between : FnScope ["halls", "one", "other", "ahead", "behind", "shared", "down", "hall"] ["halls", "one", "other"] (defScope s_between) := ⟨rfl, rfl, rfl, by decide +kernel, rfl, by decide +kernel, by decide +kernel⟩
abbrev s_law_new_bag : Stmt := topS 21
theorem sc_law_new_bag : FnScope ["cell", "at", "digits"] ["cell", "at"] (defScope s_law_new_bag) := ⟨rfl, rfl, rfl, by decide +kernel, rfl, by decide +kernel, by decide +kernel⟩
abbrev s_law_draw : Stmt := topS 22
theorem sc_law_draw : FnScope ["bag", "many", "digit", "primes", "mix", "blend"] ["bag", "many"] (defScope s_law_draw) := ⟨rfl, rfl, rfl, by decide +kernel, rfl, by decide +kernel, by decide +kernel⟩
abbrev s_law_wide : Stmt := topS 23
theorem sc_law_wide : FnScope ["bag", "many"] ["bag", "many"] (defScope s_law_wide) := ⟨rfl, rfl, rfl, by decide +kernel, rfl, by decide +kernel, by decide +kernel⟩
abbrev s_law_unlike_names : Stmt := topS 24
theorem sc_law_unlike_names : FnScope ["bag", "many", "letters", "found", "k", "size", "word", "some", "turn", "letter", "name"] ["bag", "many"] (defScope s_law_unlike_names) := ⟨rfl, rfl, rfl, by decide +kernel, rfl, by decide +kernel, by decide +kernel⟩
abbrev s_law_some_halls : Stmt := topS 25
theorem sc_law_some_halls : FnScope ["bag", "most", "many", "shape", "turned_by", "names", "pairs", "k", "upper"] ["bag", "most"] (defScope s_law_some_halls) := ⟨rfl, rfl, rfl, by decide +kernel, rfl, by decide +kernel, by decide +kernel⟩
abbrev s_law_way_to_root : Stmt := topS 26
theorem sc_law_way_to_root : FnScope ["tree", "spot", "found", "turn"] ["tree", "spot"] (defScope s_law_way_to_root) := ⟨rfl, rfl, rfl, by decide +kernel, rfl, by decide +kernel, by decide +kernel⟩
abbrev s_law_ways_right : Stmt := topS 27
theorem sc_law_ways_right : FnScope ["tree", "spot", "due", "under", "name"] ["tree", "spot"] (defScope s_law_ways_right) := ⟨rfl, rfl, rfl, by decide +kernel, rfl, by decide +kernel, by decide +kernel⟩
abbrev s_law_between_right : Stmt := topS 28
theorem sc_law_between_right : FnScope ["tree", "here", "there", "ahead", "after", "shared", "due", "name"] ["tree", "here", "there"] (defScope s_law_between_right) := ⟨rfl, rfl, rfl, by decide +kernel, rfl, by decide +kernel, by decide +kernel⟩
abbrev s_law : Stmt := topS 29
theorem sc_law : FnScope ["script", "at", "cell", "bag", "tree", "names", "kept", "top", "turn", "here", "there", "name"] ["script"] (defScope s_law) := ⟨rfl, rfl, rfl, by decide +kernel, rfl, by decide +kernel, by decide +kernel⟩
abbrev LET : Str := "abcdefghijklmnopqrstuvwxyz"
/-- what the module's names hold -/
structure Gs (mg : Str → Option Value) : Prop where
  isi : mg "isinstance" = none
  str : mg "str" = none
  dict : mg "dict" = none
  len : mg "len" = none
  all : mg "all" = none
  range : mg "range" = none
  sorted : mg "sorted" = none
  tuple : mg "tuple" = none
  list : mg "list" = none
  repr : mg "repr" = none
  max : mg "max" = none
  int : mg "int" = none
  enum : mg "enumerate" = none
  mostL : ∃ t, mg "MOST_LETTERS" = some (.int 8 t)
  mostH : ∃ t, mg "MOST_HALLS" = some (.int 40 t)
  lets : ∃ t, mg "LETTERS" = some (.str LET t)

/-! ### is_name -/
def isNm : D → Bool
  | .str s => (decide (1 ≤ s.length) && decide (s.length ≤ 8)) && (s.cps.toList.map fun k => decide (k ∈ LET.cps.toList)).all id
  | _ => false
def cName : Ctr where
  α := D
  ins := fun d => [.im d]
  ok := fun d => d.bt = true ∧ ∀ s, d = .str s → s.length ≤ 1000
  post := fun d r _ => r = .bl (isNm d)
set_option hygiene false in
local macro_rules | `(tactic| trivial) => `(tactic| first
  | refine dSs_nil ?_ | refine dSs_cons ?_ | refine dS_if ?_ | refine dS_ret ?_
  | refine dS_set (i := 0) hN ?_ | refine dS_set (i := 1) hN ?_ | refine dS_set (i := 2) hN ?_ | refine dS_set (i := 3) hN ?_ | refine dS_set (i := 4) hN ?_ | refine dS_set (i := 5) hN ?_ | refine dS_set (i := 6) hN ?_ | refine dS_set (i := 7) hN ?_ | refine dS_set (i := 8) hN ?_ | refine dS_set (i := 9) hN ?_ | refine dS_set (i := 10) hN ?_ | refine dS_set (i := 11) hN ?_
  | refine dG_name (i := 0) hN ?_ | refine dG_name (i := 1) hN ?_ | refine dG_name (i := 2) hN ?_ | refine dG_name (i := 3) hN ?_ | refine dG_name (i := 4) hN ?_ | refine dG_name (i := 5) hN ?_ | refine dG_name (i := 6) hN ?_ | refine dG_name (i := 7) hN ?_ | refine dG_name (i := 8) hN ?_ | refine dG_name (i := 9) hN ?_ | refine dG_name (i := 10) hN ?_ | refine dG_name (i := 11) hN ?_
  | refine dT_not ?_ | refine dT_bool (dW_or ?_) | refine dT_bool (dW_and ?_) | refine dT_le2 ?_ | refine dT_cmp ?_ | refine dT_val ?_
  | refine dW_or ?_ | refine dW_or1 ?_ | refine dW_and ?_ | refine dW_and1 ?_
  | refine dE_int ?_ | refine dE_str ?_ | refine dE_bl ?_ | refine dE_non ?_
  | refine dE_var (i := 0) rfl ?_ | refine dE_var (i := 1) rfl ?_ | refine dE_var (i := 2) rfl ?_ | refine dE_var (i := 3) rfl ?_ | refine dE_var (i := 4) rfl ?_ | refine dE_var (i := 5) rfl ?_ | refine dE_var (i := 6) rfl ?_ | refine dE_var (i := 7) rfl ?_ | refine dE_var (i := 8) rfl ?_ | refine dE_var (i := 9) rfl ?_ | refine dE_var (i := 10) rfl ?_ | refine dE_var (i := 11) rfl ?_
  | refine dE_isi (T := "str") T.isi T.str (by decide +kernel) ?_ | refine dE_len T.len ?_ | refine dE_allP rfl T.all ?_ | refine dE_tuple T.tuple ?_
  | refine dE_isN ?_ | refine dE_notN ?_ | refine dE_lt ?_ | refine dE_le ?_ | refine dE_gt ?_ | refine dE_ge ?_ | refine dE_sub ?_ | refine dE_mul ?_ | refine dE_mod ?_ | refine dE_fdiv ?_ | refine dE_pow ?_ | refine dE_neg ?_
  | refine ⟨_, rfl, kit_str _, ?_⟩ | refine ⟨_, rfl, kit_dict _, ?_⟩ | refine ⟨_, rfl, kit_int _, ?_⟩ | refine ⟨_, rfl, kit_bool _, ?_⟩ | refine ⟨_, rfl, kit_tuple _, ?_⟩ | refine ⟨_, rfl, kit_list _, ?_⟩
  | refine ⟨_, _, rfl, rfl, ?_⟩ | refine ⟨_, rfl, ?_⟩ | refine ⟨_, rfl, ?_, ?_⟩ | refine ⟨_, Outs.none, ?_⟩
  | refine ⟨(by first | omega | assumption : _ ≤ _), ?_⟩ | refine ⟨(by first | omega | assumption : _ < _), ?_⟩ | refine sT ?_ | refine sF ?_ | refine sT' ?_ | refine sF' ?_)
/-! ### the tree -/
abbrev Tr := List (Str × Option Str)
def uD : Option Str → D
  | none => .non
  | some s => .str s
def tK (t : Tr) : List (Key × D) := t.map fun q => (.inr q.1, uD q.2)
abbrev tD (t : Tr) : D := .dct (tK t)
def up (t : Tr) (s : Str) : Option (Option Str) := (t.find? fun q => decide (q.1 = s)).map (·.2)
theorem look_tK (s : Str) : ∀ t : Tr, look (tK t) (.inr s) = (up t s).map uD
  | [] => rfl
  | q :: t => by
    have ih := look_tK s t
    unfold look up tK at ih ⊢
    by_cases h : q.1 = s
    · have h' : (Sum.inr q.1 : Key) = .inr s := by rw [h]
      simp only [List.map_cons, List.find?_cons, h, decide_true]
      rfl
    · have h' : ¬ (Sum.inr q.1 : Key) = .inr s := fun z => h (Sum.inr.inj z)
      simp only [List.map_cons, List.find?_cons, h, h', decide_false]
      exact ih
abbrev keys (t : Tr) : List Str := t.map (·.1)
structure Good (t : Tr) : Prop where
  len : 1 ≤ t.length ∧ t.length ≤ 40
  nd : (keys t).Nodup
  nm : ∀ q ∈ t, isNm (.str q.1) = true
  one : (t.filter (·.2.isNone)).length = 1
  rk : ∃ r : Str → Nat, ∀ q ∈ t, r q.1 < t.length ∧ ∀ u, q.2 = some u → u ∈ keys t ∧ r u < r q.1
theorem up_of_mem {t : Tr} {s : Str} (h : s ∈ keys t) : ∃ v, up t s = some v ∧ (s, v) ∈ t := by
  induction t with
  | nil => cases h
  | cons q t ih =>
    unfold up
    by_cases e : q.1 = s
    · exact ⟨q.2, by simp [e], by rw [← e]; exact List.mem_cons_self⟩
    · rcases List.mem_cons.mp h with h | h
      · exact absurd h.symm e
      · obtain ⟨v, a, b⟩ := ih h
        exact ⟨v, by simpa [e, up] using a, List.mem_cons_of_mem _ b⟩
theorem Good.some {t : Tr} {s u : Str} (g : Good t) (h : up t s = some (some u)) (m : s ∈ keys t) : u ∈ keys t := by
  obtain ⟨v, a, b⟩ := up_of_mem m
  rw [h] at a
  cases a
  obtain ⟨r, hr⟩ := g.rk
  exact ((hr _ b).2 u rfl).1
theorem uD_non {v : Option Str} : (uD v).isNon = v.isNone := by cases v <;> rfl
section
variable {P : Program} {w : World} {K : PySem.W.Frag} {mg : Str → Option Value} {base : Heap} {f : Addr} {fd : FuncData}
theorem ok_is_name (T : Gs mg) (F : Fun K "is_name" "is_name" s_is_name f fd) : FnG P w K mg base CX0 1 f fd ["thing"] (spD K cName) := by
  refine fnD (k := 0) F sc_is_name (fun _ => rfl) ?_
  intro cdv A out s H E hr hg x ox
  show dSs _ _ [.im x, .un] _
  obtain ⟨t8, m8⟩ := T.mostL
  obtain ⟨tL, mL⟩ := T.lets
  repeat trivial
  refine ⟨_, ox.1, kit_str _ ox.1, _, rfl, fun hx => ?_, fun hx => ?_⟩
  · obtain ⟨z, rfl⟩ : ∃ z, x = .str z := by cases x <;> first | exact ⟨_, rfl⟩ | cases hx
    have hz : z.length ≤ 1000 := ox.2 z rfl
    repeat trivial
    refine ⟨fun h1 => dE_globI m8 ?_, fun h1 => ?_⟩
    · repeat trivial
      refine ⟨fun h8 => ?_, fun h8 => ?_⟩
      · repeat trivial
        show D.bl false = D.bl (isNm (.str z))
        simp only [isNm]
        simp at h1 h8
        have : ¬ z.length ≤ 8 := by omega
        simp [this]
      · repeat trivial
        refine dE_new (dN_mp Nat [("letter", 1)] rfl sc_is_name.nd (blk rfl) (sub rfl) (dI_str ?_))
        repeat trivial
        refine ⟨z.cps.toList, fun k => .str ⟨#[k]⟩, fun k => .bl (decide (k ∈ LET.cps.toList)), rfl, by simpa [Str.length] using Nat.le_trans hz (by omega), fun k _ s0 H0 C cl fp => ?_, ?_⟩
        · refine dG_name (i := 1) sc_is_name.nd fun s0 H0 C cl fp => dE_inC ?_
          repeat trivial
          refine dE_globS mL ⟨_, _, rfl, rfl, rfl, rfl⟩
        · refine ⟨_, _, _, rfl, ?_⟩
          repeat trivial
          show D.bl _ = D.bl (isNm (.str z))
          simp at h1 h8
          have e1 : 1 ≤ z.length := by omega
          have e2 : z.length ≤ 8 := by omega
          simp only [isNm]
          simp [e1, e2]
    · repeat trivial
      show D.bl false = D.bl (isNm (.str z))
      simp only [isNm]
      simp at h1
      have : ¬ 1 ≤ z.length := by omega
      simp [this]
  · repeat trivial
    show D.bl false = D.bl (isNm x)
    cases x <;> first | rfl | (simp [D.is_str] at hx)

end
/-! ### ways up, in plain words -/
def wayN (t : Tr) : Nat → Str → List Str
  | 0, s => [s]
  | n + 1, s => match up t s with
    | some (some u) => s :: wayN t n u
    | _ => [s]
def way (t : Tr) (s : Str) : List Str := wayN t t.length s
inductive Way (t : Tr) : Str → List Str → Prop
  | top {s : Str} : up t s = some none → Way t s [s]
  | step {s u : Str} {l : List Str} : up t s = some (some u) → Way t u l → Way t s (s :: l)
theorem wayN_ok {t : Tr} {r : Str → Nat} (hr : ∀ q ∈ t, r q.1 < t.length ∧ ∀ u, q.2 = some u → u ∈ keys t ∧ r u < r q.1) : ∀ (n : Nat) (s : Str), s ∈ keys t → r s ≤ n → Way t s (wayN t n s) ∧ (wayN t n s).length ≤ r s + 1
  | n, s, m, h => by
    obtain ⟨v, hv, mv⟩ := up_of_mem m
    have hq := hr _ mv
    cases v with
    | none =>
      cases n with
      | zero => exact ⟨.top hv, by simp [wayN]⟩
      | succ n => simp only [wayN, hv]; exact ⟨.top hv, by simp⟩
    | some u =>
      obtain ⟨mu, lu⟩ := hq.2 u rfl
      have lu : r u < r s := lu
      cases n with
      | zero => omega
      | succ n =>
        obtain ⟨a, b⟩ := wayN_ok hr n u mu (by omega)
        simp only [wayN, hv]
        exact ⟨.step hv a, by simp only [List.length_cons]; omega⟩
theorem way_ok {t : Tr} {s : Str} (g : Good t) (m : s ∈ keys t) : Way t s (way t s) ∧ (way t s).length ≤ t.length := by
  obtain ⟨r, hr⟩ := g.rk
  obtain ⟨v, hv, mv⟩ := up_of_mem m
  have := (hr _ mv).1
  have this : r s < t.length := this
  obtain ⟨a, b⟩ := wayN_ok hr t.length s m (by omega)
  exact ⟨a, by unfold way; omega⟩
theorem Way.one {t : Tr} {s : Str} {l : List Str} (h : Way t s l) : ∀ {l' : List Str}, Way t s l' → l = l' := by
  induction h with
  | top e => intro l' k; cases k with
    | top e' => rfl
    | step e' _ => rw [e] at e'; cases e'
  | step e _ ih => intro l' k; cases k with
    | top e' => rw [e] at e'; cases e'
    | step e' k => rw [e] at e'; cases e'; rw [ih k]
theorem Way.hd {t : Tr} {s : Str} {l : List Str} (h : Way t s l) : ∃ r, l = s :: r := by cases h <;> exact ⟨_, rfl⟩
theorem Way.tl {t : Tr} {s x : Str} {l : List Str} (h : Way t s l) (m : x ∈ l) : ∃ p r, l = p ++ r ∧ Way t x r := by
  induction h with
  | top e => cases List.mem_singleton.mp m; exact ⟨[], _, rfl, .top e⟩
  | @step s u l e k ih =>
    rcases List.mem_cons.mp m with rfl | m
    · exact ⟨[], _, rfl, .step e k⟩
    · obtain ⟨p, r, rfl, w⟩ := ih m
      exact ⟨s :: p, r, rfl, w⟩
theorem Way.nd {t : Tr} {s : Str} {l : List Str} (h : Way t s l) : l.Nodup := by
  induction h with
  | top e => simp
  | @step s u l e k ih =>
    refine List.nodup_cons.mpr ⟨fun m => ?_, ih⟩
    obtain ⟨p, r, rfl, w⟩ := k.tl m
    have := w.one (.step e k)
    have := congrArg List.length this
    simp at this
    omega
theorem Way.key {t : Tr} {s x : Str} {l : List Str} (h : Way t s l) (m : x ∈ l) : ∃ v, up t x = some v := by
  obtain ⟨p, r, _, w⟩ := h.tl m
  cases w <;> exact ⟨_, by assumption⟩
theorem Way.last {t : Tr} {s : Str} {l : List Str} (h : Way t s l) : ∃ x, x ∈ l ∧ up t x = some none := by
  induction h with
  | top e => exact ⟨_, List.mem_singleton.mpr rfl, e⟩
  | step e k ih => obtain ⟨x, m, e⟩ := ih; exact ⟨x, List.mem_cons_of_mem _ m, e⟩
theorem mem_of_up {t : Tr} {s : Str} {v : Option Str} (h : up t s = some v) : (s, v) ∈ t := by
  unfold up at h
  cases hf : t.find? fun q => decide (q.1 = s) with
  | none => rw [hf] at h; cases h
  | some q =>
    rw [hf] at h
    cases h
    have h1 := List.mem_of_find?_eq_some hf
    have h2 := List.find?_some hf
    have h2 : q.1 = s := of_decide_eq_true h2
    rw [← h2]
    exact h1
theorem good_tops {t : Tr} {x y : Str} (g : Good t) (hx : up t x = some none) (hy : up t y = some none) : x = y := by
  have mx : (x, none) ∈ t.filter (·.2.isNone) := List.mem_filter.mpr ⟨mem_of_up hx, rfl⟩
  have my : (y, none) ∈ t.filter (·.2.isNone) := List.mem_filter.mpr ⟨mem_of_up hy, rfl⟩
  obtain ⟨q, hl⟩ := List.length_eq_one_iff.mp g.one
  rw [hl, List.mem_singleton] at mx my
  rw [← mx] at my
  exact (Prod.mk.inj my).1.symm
/-- where two ways meet -/
structure Meet (A B q p : List Str) (x : Str) (l : List Str) : Prop where
  ha : A = q ++ x :: l
  hb : B = p ++ x :: l
  hq : ∀ z ∈ q, z ∉ B
  hp : ∀ z ∈ p, z ∉ A
theorem Meet.symm {A B q p : List Str} {x : Str} {l : List Str} (h : Meet A B q p x l) : Meet B A p q x l := ⟨h.hb, h.ha, h.hp, h.hq⟩
theorem first_in {A B : List Str} (h : ∃ z, z ∈ A ∧ z ∈ B) : ∃ q x l, A = q ++ x :: l ∧ x ∈ B ∧ ∀ z ∈ q, z ∉ B := by
  induction A with
  | nil => obtain ⟨z, m, _⟩ := h; cases m
  | cons a A ih =>
    by_cases m : a ∈ B
    · exact ⟨[], a, A, rfl, m, nofun⟩
    · obtain ⟨z, mz, kz⟩ := h
      have mz : z ∈ A := by
        rcases List.mem_cons.mp mz with rfl | w
        · exact absurd kz m
        · exact w
      obtain ⟨q, x, l, rfl, mx, hq⟩ := ih ⟨z, mz, kz⟩
      refine ⟨a :: q, x, l, rfl, mx, fun z w => ?_⟩
      rcases List.mem_cons.mp w with rfl | w
      · exact m
      · exact hq z w
theorem meet {t : Tr} {a b : Str} (g : Good t) (ma : a ∈ keys t) (mb : b ∈ keys t) : ∃ q p x l, Meet (way t a) (way t b) q p x l := by
  have wa := (way_ok g ma).1
  have wb := (way_ok g mb).1
  obtain ⟨z, mz, ez⟩ := wa.last
  obtain ⟨y, my, ey⟩ := wb.last
  cases good_tops g ez ey
  obtain ⟨q, x, l, eA, mx, hq⟩ := first_in ⟨z, mz, my⟩
  have xA : x ∈ way t a := by rw [eA]; simp
  obtain ⟨q2, r2, e2, w2⟩ := wa.tl xA
  obtain ⟨p, r, eB, w⟩ := wb.tl mx
  obtain ⟨r', rfl⟩ := w2.hd
  have nA := wa.nd
  have hl : x :: l = x :: r' := by
    rw [eA] at e2 nA
    have n2 := nA
    rw [e2] at n2
    have n1 := List.nodup_append.mp nA
    have n3 := List.nodup_append.mp n2
    have xq : x ∉ q := fun m => n1.2.2 x m x (by simp) rfl
    have xq2 : x ∉ q2 := fun m => n3.2.2 x m x (by simp) rfl
    have i1 : (q ++ x :: l).idxOf x = q.length := by rw [List.idxOf_append, if_neg xq]; simp
    have i2 : (q2 ++ x :: r').idxOf x = q2.length := by rw [List.idxOf_append, if_neg xq2]; simp
    rw [e2, i2] at i1
    exact (List.append_inj e2 i1.symm).2
  cases hl
  cases w.one w2
  refine ⟨q, p, x, l, eA, eB, hq, fun z mz kz => ?_⟩
  have zB : z ∈ way t b := by rw [eB]; simp [mz]
  have nB := wb.nd
  rw [eB] at nB
  rw [eA] at kz
  rcases List.mem_append.mp kz with k | k
  · exact hq z k zB
  · exact (List.nodup_append.mp nB).2.2 z mz z k rfl
section
variable {A B q p l : List Str} {x : Str}
theorem Meet.xA (h : Meet A B q p x l) : x ∈ A := by rw [h.ha]; simp
theorem Meet.xB (h : Meet A B q p x l) : x ∈ B := by rw [h.hb]; simp
theorem Meet.xq (h : Meet A B q p x l) : x ∉ q := fun m => h.hq x m h.xB
theorem Meet.xp (h : Meet A B q p x l) : x ∉ p := fun m => h.hp x m h.xA
theorem Meet.first (h : Meet A B q p x l) : ∃ r, A.filter (fun z => decide (z ∈ B)) = x :: r := by
  refine ⟨l.filter fun z => decide (z ∈ B), ?_⟩
  have e : q.filter (fun z => decide (z ∈ B)) = [] := List.filter_eq_nil_iff.mpr fun z m => by simpa using h.hq z m
  have hx := h.xB
  have : A.filter (fun z => decide (z ∈ B)) = (q ++ x :: l).filter (fun z => decide (z ∈ B)) := by rw [← h.ha]
  rw [this, List.filter_append, e]
  simp [hx]
theorem Meet.ixA (h : Meet A B q p x l) : A.idxOf x = q.length := by rw [h.ha, List.idxOf_append, if_neg h.xq]; simp
theorem Meet.ixB (h : Meet A B q p x l) : B.idxOf x = p.length := h.symm.ixA
theorem Meet.cutA (h : Meet A B q p x l) : A.take (q.length + 1) = q ++ [x] := by rw [h.ha, List.take_append, List.take_of_length_le (by omega), Nat.add_sub_cancel_left]; rfl
theorem Meet.cutB (h : Meet A B q p x l) : B.take p.length = p := by rw [h.hb]; simp
theorem Meet.lenA (h : Meet A B q p x l) : q.length + 1 ≤ A.length := by rw [h.ha]; simp
theorem Meet.lenB (h : Meet A B q p x l) : p.length + 1 ≤ B.length := h.symm.lenA
end
theorem rising_pw : ∀ (l : List Str) (p : Str), risingS p l = true → (p :: l).Pairwise fun a b => ¬ b.cps.toList < a.cps.toList
  | [], p, _ => by simp
  | x :: l, p, h => by
    simp only [risingS, Bool.and_eq_true, Bool.not_eq_true', ltCps_eq, decide_eq_false_iff_not] at h
    have ih := rising_pw l x h.2
    refine List.pairwise_cons.mpr ⟨fun b m => ?_, ih⟩
    rcases List.mem_cons.mp m with rfl | m
    · exact h.1
    · have := (List.pairwise_cons.mp ih).1 b m
      intro lt
      have h1 : p.cps.toList ≤ x.cps.toList := List.not_lt.mp h.1
      have h2 : x.cps.toList ≤ b.cps.toList := List.not_lt.mp this
      exact (List.not_lt.mpr (List.le_trans h1 h2)) lt
theorem sorted_pw {l : List Str} (h : sortedS l = true) : l.Pairwise fun a b => ¬ b.cps.toList < a.cps.toList := by
  cases l with
  | nil => exact List.Pairwise.nil
  | cons p l => exact rising_pw l p h
theorem cps_inj {a b : Str} (h : a.cps.toList = b.cps.toList) : a = b := by
  cases a; cases b
  congr
  exact Array.toList_inj.mp h
theorem sorted_one {l l' : List Str} (p : l.Perm l') (h : sortedS l = true) (h' : sortedS l' = true) : l = l' :=
  List.Perm.eq_of_pairwise (fun a b _ _ h1 h2 => cps_inj (List.le_antisymm (List.not_lt.mp h1) (List.not_lt.mp h2))) (sorted_pw h) (sorted_pw h') p
section
variable {P : Program} {w : World} {K : PySem.W.Frag} {mg : Str → Option Value} {base : Heap} {f : Addr} {fd : FuncData}
/-! ### comes_up -/
abbrev cTS (R : Tr → Str → D) : Ctr where
  α := Tr × Str
  ins := fun x => [.im (tD x.1), .im (.str x.2)]
  ok := fun x => Good x.1 ∧ x.2 ∈ keys x.1
  post := fun x r _ => r = R x.1 x.2
abbrev cT (R : Tr → D) : Ctr where
  α := Tr
  ins := fun x => [.im (tD x)]
  ok := fun x => Good x
  post := fun x r _ => r = R x
abbrev cComes : Ctr := cTS fun _ _ => .bl true
theorem tK_len (t : Tr) : (tK t).length = t.length := List.length_map _
theorem ok_comes_up (T : Gs mg) (F : Fun K "comes_up" "comes_up" s_comes_up f fd) : FnG P w K mg base CX0 1 f fd ["thing", "hall"] (spD K cComes) := by
  refine fnD (k := 0) F sc_comes_up (fun _ => rfl) ?_
  rintro cdv A out s H E hr hg ⟨t, a⟩ ⟨gd, ha⟩
  replace gd : Good t := gd
  replace ha : a ∈ keys t := ha
  show dSs _ _ [.im (tD t), .im (.str a), .un, .un] _
  obtain ⟨r, hrk⟩ := gd.rk
  have hlen := gd.len
  have tl := tK_len t
  have hN := sc_comes_up.nd
  repeat trivial
  refine dS_for PassesOwn.never rfl (dI_range1 T.range (dA_one ?_))
  repeat trivial
  refine ⟨fun k Γ => ∃ b e, Γ = [.im (tD t), .im (.str a), .im (.str b), e] ∧ b ∈ keys t ∧ r b + k < t.length, ?_, ?_, ?_⟩
  · obtain ⟨v, _, m⟩ := up_of_mem ha
    exact ⟨a, _, rfl, ha, (hrk _ m).1⟩
  · rintro k d Γ hd ⟨b, e, rfl, mb, hb⟩
    have hk : k < t.length := by omega
    obtain ⟨v, hv, mv⟩ := up_of_mem mb
    have hl : look (tK t) (.inr b) = some (uD v) := by rw [look_tK, hv]; rfl
    repeat trivial
    refine dE_ixD (hu_of hr) ?_
    repeat trivial
    refine ⟨_, .inr b, _, rfl, rfl, hl, ?_⟩
    cases v with
    | none => repeat trivial
    | some u =>
      repeat trivial
      refine dE_ixD (hu_of hr) ?_
      repeat trivial
      refine ⟨_, .inr b, _, rfl, rfl, hl, ?_⟩
      repeat trivial
      have := (hrk _ mv).2 u rfl
      exact ⟨u, _, rfl, this.1, by have := this.2; dsimp only at this; omega⟩
  · rintro Γ ⟨b, e, rfl, mb, hb⟩
    rw [upto_len] at hb
    omega
/-! ### are_halls -/
abbrev cHalls : Ctr := cT fun _ => .bl true
theorem isNm_len {s : Str} (h : isNm (.str s) = true) : s.length ≤ 8 := by
  simp only [isNm, Bool.and_eq_true, decide_eq_true_eq] at h
  exact h.1.2
theorem Good.nmK {t : Tr} {s : Str} (g : Good t) (h : s ∈ keys t) : isNm (.str s) = true := by
  obtain ⟨v, _, m⟩ := up_of_mem h
  exact g.nm _ m
theorem ok_are_halls (T : Gs mg) (C1 : Fd P w K mg base "is_name" 1 ["thing"] cName) (C2 : Fd P w K mg base "comes_up" 1 ["thing", "hall"] cComes) (F : Fun K "are_halls" "are_halls" s_are_halls f fd) :
    FnG P w K mg base CX0 2 f fd ["thing"] (spD K cHalls) := by
  refine fnD (k := 1) F sc_are_halls (fun _ => rfl) ?_
  intro cdv A out s H E hr hg t gd
  replace gd : Good t := gd
  show dSs _ _ [.im (tD t), .un, .un, .un] _
  obtain ⟨t40, m40⟩ := T.mostH
  have hlen := gd.len
  have tl := tK_len t
  have hN := sc_are_halls.nd
  repeat trivial
  refine dE_isi (T := "dict") T.isi T.dict (by decide +kernel) ?_
  repeat trivial
  refine ⟨fun _ => dE_globI m40 ?_, fun h1 => ?_⟩
  rotate_left
  · simp at h1; omega
  repeat trivial
  refine ⟨fun h8 => ?_, fun h8 => ?_⟩
  · simp at h8; omega
  repeat trivial
  refine dE_lock (i := 0) rfl rfl ?_
  refine dE_new (dN_mp (Str × Option Str) [("hall", 2)] rfl hN (blk rfl) (sub rfl) (dI_keys (i := 0) rfl ?_))
  refine ⟨t, fun q => .str q.1, fun _ => .bl true, by simp [tK, kD], by omega, fun q mq s0 H0 C cl fp => ?_, ?_⟩
  · repeat trivial
    intro s0 H0 C cl fp
    refine dE_fn C1 hr hg (by omega) (dA_one ?_)
    repeat trivial
    refine ⟨[.str q.1], .str q.1, rfl, rfl, ?_, ?_⟩
    · refine ⟨rfl, fun z e => ?_⟩
      cases e
      have := isNm_len (gd.nm q mq)
      omega
    · rintro r o rfl
      exact ⟨by rw [gd.nm q mq], rfl⟩
  refine ⟨rfl, rfl, _, _, _, rfl, ?_⟩
  have ea : t.all (fun _ => true) = true := by simp
  rw [ea]
  repeat trivial
  show dE _ _ [.im (tD t), .un, .un, .un] _
  refine dE_lock (i := 0) rfl rfl ?_
  refine dE_new (dN_mp (Str × Option Str) [("upper", 3)] rfl hN (blk rfl) (sub rfl) (dI_values (i := 0) rfl ?_))
  refine ⟨t, fun q => uD q.2, fun _ => .bl true, by simp [tK], by omega, fun q mq s0 H0 C cl fp => ?_, ?_⟩
  · repeat trivial
    intro s0 H0 C cl fp
    obtain ⟨qa, qv⟩ := q
    cases qv with
    | none =>
      refine dE_or ?_
      repeat trivial
    | some u =>
      obtain ⟨rk, hrk⟩ := gd.rk
      have mu := ((hrk _ mq).2 u rfl).1
      have nu := gd.nmK mu
      obtain ⟨v, hv, _⟩ := up_of_mem mu
      refine dE_or ?_
      repeat trivial
      refine dE_one (dE_and ?_)
      refine dE_fn C1 hr hg (by omega) (dA_one ?_)
      repeat trivial
      refine ⟨[.str u], .str u, rfl, rfl, ?_, ?_⟩
      · refine ⟨rfl, fun z e => ?_⟩
        cases e
        have := isNm_len nu
        omega
      · rintro r o rfl
        show ∃ k, D.bl (isNm (.str u)) = .bl k ∧ _
        rw [nu]
        repeat trivial
        refine dE_one (dE_inD (hu_of hr) ?_)
        repeat trivial
        refine dE_varF (i := 0) rfl ⟨_, .inr u, rfl, rfl, ?_, rfl⟩
        rw [look_tK, hv]
        rfl
  refine ⟨rfl, rfl, _, _, _, rfl, ?_⟩
  rw [ea]
  repeat trivial
  show dS _ _ [.im (tD t), .un, .un, .un] _
  refine dS_setFlL (Str × Option Str) (i := 1) (j := 0) rfl rfl [("hall", 2), ("upper", 3)] rfl hN (blk rfl) (sub rfl) (dI_items (i := 0) rfl ?_)
  refine ⟨t, fun q => .tup [.str q.1, uD q.2], fun q => .str q.1, fun q => q.2.isNone, by simp [tK, kD], by omega, fun q mq s0 H0 C cl fp => ?_, rfl, rfl, ?_⟩
  · refine dG_tup rfl (dGs_cons (dG_name (i := 2) hN (dGs_cons (dG_name (i := 3) hN (dGs_nil ?_))))) rfl
    intro s0 H0 C cl fp
    refine dTs_one ?_
    repeat trivial
    refine ⟨uD_non, fun _ s0 H0 C cl fp => ?_, fun _ => rfl⟩
    repeat trivial
  have eo := gd.one
  show dSs _ _ [.im (tD t), .im (.lst ((t.filter (·.2.isNone)).map fun q => .str q.1)), .un, .un] _
  refine dSs_cons (dS_ret (dE_and (dE_eq (dE_len T.len ?_))))
  refine dE_var (i := 1) rfl ⟨_, rfl, by rw [List.length_map]; omega, dE_int ⟨_, rfl, _, rfl, fun _ => ?_, fun hk => ?_⟩⟩
  · refine dE_one (dE_allP rfl T.all ?_)
    refine dE_lock (i := 0) rfl rfl ?_
    refine dE_new (dN_mp (Str × Option Str) [("hall", 2)] rfl hN (blk rfl) (sub rfl) (dI_keys (i := 0) rfl ?_))
    refine ⟨t, fun q => .str q.1, fun _ => .bl true, by simp [tK, kD], by omega, fun q mq s0 H0 C cl fp => ?_, ?_⟩
    · repeat trivial
      intro s0 H0 C cl fp
      refine dE_fn C2 hr hg (by omega) (dA_cons (dE_varF (i := 0) rfl (dA_one ?_)))
      repeat trivial
      refine ⟨[tD t, .str q.1], (t, q.1), rfl, rfl, ⟨gd, List.mem_map.mpr ⟨q, mq, rfl⟩⟩, ?_⟩
      rintro r o rfl
      exact ⟨rfl, rfl⟩
    refine ⟨rfl, rfl, _, _, _, rfl, ?_⟩
    rw [ea]
    exact ⟨_, Outs.none, rfl⟩
  · rw [List.length_map, eo] at hk
    simp at hk
/-! ### need_halls, need_hall -/
abbrev cNeed : Ctr := cT fun _ => .non
abbrev cNeed1 : Ctr := cTS fun _ _ => .non
theorem ok_need_halls (T : Gs mg) (C1 : Fd P w K mg base "are_halls" 2 ["thing"] cHalls) (F : Fun K "need_halls" "need_halls" s_need_halls f fd) : FnG P w K mg base CX0 3 f fd ["halls"] (spD K cNeed) := by
  refine fnD (k := 2) F sc_need_halls (fun _ => rfl) ?_
  intro cdv A out s H E hr hg t gd
  replace gd : Good t := gd
  show dSs _ _ [.im (tD t)] _
  have hN := sc_need_halls.nd
  refine dSs_cons (dS_if (dT_not (dT_val (dE_fn C1 hr hg (by omega) (dA_one (dE_var (i := 0) rfl ⟨[tD t], t, rfl, rfl, gd, ?_⟩))))))
  rintro r o rfl
  repeat trivial
theorem ok_need_hall (T : Gs mg) (C1 : Fd P w K mg base "is_name" 1 ["thing"] cName) (F : Fun K "need_hall" "need_hall" s_need_hall f fd) : FnG P w K mg base CX0 3 f fd ["halls", "hall"] (spD K cNeed1) := by
  refine fnD (k := 2) F sc_need_hall (fun _ => rfl) ?_
  rintro cdv A out s H E hr hg ⟨t, a⟩ ⟨gd, ha⟩
  replace gd : Good t := gd
  replace ha : a ∈ keys t := ha
  show dSs _ _ [.im (tD t), .im (.str a)] _
  have nu := gd.nmK ha
  obtain ⟨v, hv, _⟩ := up_of_mem ha
  refine dSs_cons (dS_if (dT_bool (dW_or (dT_not (dT_val (dE_fn C1 hr hg (by omega) (dA_one (dE_var (i := 1) rfl ⟨[.str a], .str a, rfl, rfl, ?_, ?_⟩))))))))
  · refine ⟨rfl, fun z e => ?_⟩
    cases e
    have := isNm_len nu
    omega
  · rintro r o rfl
    show ∃ k, D.bl (isNm (.str a)) = .bl k ∧ _
    rw [nu]
    repeat trivial
    refine dE_notInD (hu_of hr) ?_
    repeat trivial
    refine ⟨_, .inr a, rfl, rfl, ?_⟩
    rw [look_tK, hv]
    repeat trivial
end
section
variable {P : Program} {w : World} {K : PySem.W.Frag} {mg : Str → Option Value} {base : Heap} {f : Addr} {fd : FuncData}
/-! ### top_of, ways_of -/
def top (t : Tr) : Str := ((t.filter (·.2.isNone)).map (·.1)).headD ""
abbrev cTop : Ctr := cT fun t => .str (top t)
abbrev cWays : Ctr := cTS fun t s => .lst ((way t s).map .str)
theorem ok_top_of (T : Gs mg) (F : Fun K "top_of" "top_of" s_top_of f fd) : FnG P w K mg base CX0 1 f fd ["halls"] (spD K cTop) := by
  refine fnD (k := 0) F sc_top_of (fun _ => rfl) ?_
  intro cdv A out s H E hr hg t gd
  replace gd : Good t := gd
  show dSs _ _ [.im (tD t), .un, .un, .un, .un] _
  have hlen := gd.len
  have hN := sc_top_of.nd
  obtain ⟨z, hz⟩ := List.length_eq_one_iff.mp gd.one
  refine dSs_cons (dS_star (i := 1) (j := 2) rfl hN ?_)
  refine dE_lock (i := 0) rfl rfl ?_
  refine dE_new (dN_fl (Str × Option Str) [("hall", 3), ("upper", 4)] rfl hN (blk rfl) (sub rfl) (dI_items (i := 0) rfl ?_))
  refine ⟨t, fun q => .tup [.str q.1, uD q.2], fun q => .str q.1, fun q => q.2.isNone, by simp [tK, kD], by omega, fun q mq s0 H0 C cl fp => ?_, rfl, rfl, ?_⟩
  · refine dG_tup rfl (dGs_cons (dG_name (i := 3) hN (dGs_cons (dG_name (i := 4) hN (dGs_nil ?_))))) rfl
    intro s0 H0 C cl fp
    refine dTs_one ?_
    repeat trivial
    refine ⟨uD_non, fun _ s0 H0 C cl fp => ?_, fun _ => rfl⟩
    repeat trivial
  · rw [hz]
    refine ⟨.str z.1, [], rfl, ?_⟩
    show dSs _ _ [.im (tD t), .im (.str z.1), .im (.lst []), .un, .un] _
    repeat trivial
    show D.str z.1 = .str (top t)
    rw [top, hz]
    rfl
theorem ok_ways_of (T : Gs mg) (F : Fun K "ways_of" "ways_of" s_ways_of f fd) : FnG P w K mg base CX0 1 f fd ["halls", "hall"] (spD K cWays) := by
  refine fnD (k := 0) F sc_ways_of (fun _ => rfl) ?_
  rintro cdv A out s H E hr hg ⟨t, a⟩ ⟨gd, ha⟩
  replace gd : Good t := gd
  replace ha : a ∈ keys t := ha
  show dSs _ _ [.im (tD t), .im (.str a), .un] _
  have hlen := gd.len
  have hN := sc_ways_of.nd
  obtain ⟨w0, l0⟩ := way_ok gd ha
  refine dSs_cons (dS_setO (i := 2) hN (dN_lst (dA_one (dE_var (i := 1) rfl ⟨[.str a], rfl, by simp, fun p0 => ?_⟩))))
  show dSs _ _ [.im (tD t), .im (.str a), .ow (.ref p0) (oL [.str a])] _
  refine dSs_cons (dS_while PassesOwn.never (fun n Γ => ∃ pre s l, Γ = [.im (tD t), .im (.str a), .ow (.ref p0) (oL ((pre ++ [s]).map .str))] ∧ Way t s l ∧ way t a = pre ++ l ∧ n = l.length) (way t a).length ⟨[], a, _, rfl, w0, rfl, rfl⟩ ?_)
  rintro n Γ ⟨pre, s, l, rfl, wl, el, rfl⟩
  have hat : atI ((pre ++ [s]).map D.str) (-1) = some (.str s) := by
    rw [List.map_append]
    exact atI_last _ _
  have hpl : pre.length < 40 := by
    have := congrArg List.length el
    rw [List.length_append] at this
    obtain ⟨r, hr⟩ := wl.hd
    rw [hr, List.length_cons] at this
    omega
  refine dT_cmp (dE_notN (dE_ixD (hu_of hr) (dE_var (i := 0) rfl (dE_ixO (i := 2) (w := .ref p0) (o := oL ((pre ++ [s]).map .str)) (hi := rfl) (dE_neg (dE_int ⟨_, rfl, _, _, _, _, rfl, rfl, hat, ?_⟩))))))
  cases wl with
  | top e =>
    refine ⟨_, .inr s, .non, rfl, rfl, by rw [look_tK, e]; rfl, ?_⟩
    repeat trivial
    refine dE_varO (i := 2) rfl ?_
    repeat trivial
    show D.lst _ = .lst _
    rw [el]
  | @step _ u l e k =>
    have hl : look (tK t) (.inr s) = some (.str u) := by rw [look_tK, e]; rfl
    refine ⟨_, .inr s, .str u, rfl, rfl, hl, ?_⟩
    repeat trivial
    refine dS_append (i := 2) rfl (dE_ixD (hu_of hr) (dE_var (i := 0) rfl (dE_ixO (i := 2) (w := .ref p0) (o := oL ((pre ++ [s]).map .str)) (hi := rfl) (dE_neg (dE_int ⟨_, rfl, _, _, _, _, rfl, rfl, hat, ?_⟩)))))
    refine ⟨_, .inr s, .str u, rfl, rfl, hl, _, rfl, by simp; omega, ?_⟩
    repeat trivial
    refine ⟨l.length, by simp, pre ++ [s], u, l, ?_, k, by rw [el]; simp, rfl⟩
    show [_, _, _] = _
    simp [oL]
/-! ### root_of, way_up -/
abbrev cWayUp : Ctr := cTS fun t s => .tup ((way t s).map .str)
theorem ok_root_of (T : Gs mg) (C1 : Fd P w K mg base "need_halls" 3 ["halls"] cNeed) (C2 : Fd P w K mg base "top_of" 1 ["halls"] cTop) (F : Fun K "root_of" "root_of" s_root_of f fd) : FnG P w K mg base CX0 4 f fd ["halls"] (spD K cTop) := by
  refine fnD (k := 3) F sc_root_of (fun _ => rfl) ?_
  intro cdv A out s H E hr hg t gd
  replace gd : Good t := gd
  show dSs _ _ [.im (tD t)] _
  refine dSs_cons (dS_expr (dE_fn C1 hr hg (by omega) (dA_one (dE_var (i := 0) rfl ⟨[tD t], t, rfl, rfl, gd, fun r o hr' => ?_⟩))))
  refine dSs_cons (dS_ret (dE_fn C2 hr hg (by omega) (dA_one (dE_var (i := 0) rfl ⟨[tD t], t, rfl, rfl, gd, fun r o hr' => ?_⟩))))
  exact ⟨_, Outs.none, hr'⟩
theorem ok_way_up (T : Gs mg) (C1 : Fd P w K mg base "need_halls" 3 ["halls"] cNeed) (C2 : Fd P w K mg base "need_hall" 3 ["halls", "hall"] cNeed1) (C3 : Fd P w K mg base "ways_of" 1 ["halls", "hall"] cWays) (F : Fun K "way_up" "way_up" s_way_up f fd) :
    FnG P w K mg base CX0 4 f fd ["halls", "hall"] (spD K cWayUp) := by
  refine fnD (k := 3) F sc_way_up (fun _ => rfl) ?_
  rintro cdv A out s H E hr hg ⟨t, a⟩ ⟨gd, ha⟩
  replace gd : Good t := gd
  replace ha : a ∈ keys t := ha
  show dSs _ _ [.im (tD t), .im (.str a)] _
  refine dSs_cons (dS_expr (dE_fn C1 hr hg (by omega) (dA_one (dE_var (i := 0) rfl ⟨[tD t], t, rfl, rfl, gd, fun r o hr' => ?_⟩))))
  refine dSs_cons (dS_expr (dE_fn C2 hr hg (by omega) (dA_cons (dE_var (i := 0) rfl (dA_one (dE_var (i := 1) rfl ⟨[tD t, .str a], (t, a), rfl, rfl, ⟨gd, ha⟩, fun r o hr' => ?_⟩))))))
  refine dSs_cons (dS_ret (dE_tuple T.tuple (dE_fn C3 hr hg (by omega) (dA_cons (dE_var (i := 0) rfl (dA_one (dE_var (i := 1) rfl ⟨[tD t, .str a], (t, a), rfl, rfl, ⟨gd, ha⟩, fun r o hr' => ?_⟩)))))))
  exact ⟨_, hr', _, Outs.none, rfl⟩
end
section
variable {P : Program} {w : World} {K : PySem.W.Frag} {mg : Str → Option Value} {base : Heap} {f : Addr} {fd : FuncData}
/-! ### below, between -/
def under (t : Tr) (s : Str) : List Str := (keys t).filter fun o => decide (s ∈ way t o)
abbrev cBelow : Ctr where
  α := Tr × Str
  ins := fun x => [.im (tD x.1), .im (.str x.2)]
  ok := fun x => Good x.1 ∧ x.2 ∈ keys x.1
  post := fun x r _ => ∃ ys : List Str, ys.Perm (under x.1 x.2) ∧ sortedS ys = true ∧ r = .tup (ys.map .str)
theorem keys_kD (t : Tr) : ((tK t).map fun q => kD q.1) = (keys t).map D.str := by simp [tK, kD]
theorem keys_len (t : Tr) : (keys t).length = t.length := by simp
theorem ok_below (T : Gs mg) (C1 : Fd P w K mg base "need_halls" 3 ["halls"] cNeed) (C2 : Fd P w K mg base "need_hall" 3 ["halls", "hall"] cNeed1) (C3 : Fd P w K mg base "ways_of" 1 ["halls", "hall"] cWays) (F : Fun K "below" "below" s_below f fd) :
    FnG P w K mg base CX0 4 f fd ["halls", "hall"] (spD K cBelow) := by
  refine fnD (k := 3) F sc_below (fun _ => rfl) ?_
  rintro cdv A out s H E hr hg ⟨t, a⟩ ⟨gd, ha⟩
  replace gd : Good t := gd
  replace ha : a ∈ keys t := ha
  show dSs _ _ [.im (tD t), .im (.str a), .un] _
  have hN := sc_below.nd
  have hlen := gd.len
  have hkl := keys_len t
  refine dSs_cons (dS_expr (dE_fn C1 hr hg (by omega) (dA_one (dE_var (i := 0) rfl ⟨[tD t], t, rfl, rfl, gd, fun r o hr' => ?_⟩))))
  refine dSs_cons (dS_expr (dE_fn C2 hr hg (by omega) (dA_cons (dE_var (i := 0) rfl (dA_one (dE_var (i := 1) rfl ⟨[tD t, .str a], (t, a), rfl, rfl, ⟨gd, ha⟩, fun r o hr' => ?_⟩))))))
  refine dSs_cons (dS_ret (dE_tuple T.tuple (dE_new (dN_sortedS T.sorted (dE_lock (i := 0) rfl rfl ?_)))))
  refine dE_new (dN_fl Str [("other", 2)] rfl hN (blk rfl) (sub rfl) (dI_keys (i := 0) rfl ?_))
  refine ⟨keys t, .str, .str, fun o => decide (a ∈ way t o), keys_kD t, by omega, fun o mo s0 H0 C cl fp => ?_, rfl, rfl, ?_⟩
  · refine dG_name (i := 2) hN fun s0 H0 C cl fp => dTs_one (dT_cmp (dE_inS (dE_var (i := 1) rfl ?_)))
    refine dE_fn C3 hr hg (by omega) (dA_cons (dE_varF (i := 0) rfl (dA_one (dE_var (i := 2) rfl ⟨[tD t, .str o], (t, o), rfl, rfl, ⟨gd, mo⟩, fun r o hr' => ?_⟩))))
    cases hr'
    refine ⟨_, _, rfl, rfl, _, rfl, rfl, fun _ s0 H0 C cl fp => dE_var (i := 2) rfl ⟨rfl, rfl⟩, fun _ => rfl⟩
  · refine ⟨_, rfl, ?_, fun ys hp hs => ⟨_, rfl, _, Outs.none, ys, hp, hs, rfl⟩⟩
    have := List.length_filter_le (fun o => decide (a ∈ way t o)) (keys t)
    omega
structure BtwA where
  t : Tr
  a : Str
  b : Str
  q : List Str
  p : List Str
  x : Str
  l : List Str
structure BtwA.Ok (y : BtwA) : Prop where
  g : Good y.t
  ma : y.a ∈ keys y.t
  mb : y.b ∈ keys y.t
  m : Meet (way y.t y.a) (way y.t y.b) y.q y.p y.x y.l
def BtwA.due (y : BtwA) : List Str := (y.q ++ [y.x]) ++ y.p.reverse
abbrev cBetw : Ctr where
  α := BtwA
  ins := fun y => [.im (tD y.t), .im (.str y.a), .im (.str y.b)]
  ok := BtwA.Ok
  post := fun y r _ => r = .tup (y.due.map .str)
theorem cut_to {xs : List Str} {n : Nat} (h : n ≤ xs.length) : Nd.cutD (xs.map D.str) none (some (n : Int)) = (xs.take n).map D.str := by
  unfold Nd.cutD
  rw [HT.sIx_none, HT.sIx_nat, List.length_map, Nat.min_eq_left h, List.drop_zero, Nat.sub_zero, List.map_take]
theorem ok_between (T : Gs mg) (C1 : Fd P w K mg base "need_halls" 3 ["halls"] cNeed) (C2 : Fd P w K mg base "need_hall" 3 ["halls", "hall"] cNeed1) (C3 : Fd P w K mg base "ways_of" 1 ["halls", "hall"] cWays) (F : Fun K "between" "between" s_between f fd) :
    FnG P w K mg base CX0 4 f fd ["halls", "one", "other"] (spD K cBetw) := by
  refine fnD (k := 3) F sc_between (fun _ => rfl) ?_
  rintro cdv A out s H E hr hg ⟨t, a, b, q, p, x, l⟩ ⟨gd, ha, hb, m⟩
  replace gd : Good t := gd
  replace ha : a ∈ keys t := ha
  replace hb : b ∈ keys t := hb
  replace m : Meet (way t a) (way t b) q p x l := m
  show dSs _ _ [.im (tD t), .im (.str a), .im (.str b), .un, .un, .un, .un, .un] _
  have hN := sc_between.nd
  have hlen := gd.len
  have la := (way_ok gd ha).2
  have lb := (way_ok gd hb).2
  have lA := m.lenA
  have lB := m.lenB
  refine dSs_cons (dS_expr (dE_fn C1 hr hg (by omega) (dA_one (dE_var (i := 0) rfl ⟨[tD t], t, rfl, rfl, gd, fun r o hr' => ?_⟩))))
  refine dSs_cons (dS_expr (dE_fn C2 hr hg (by omega) (dA_cons (dE_var (i := 0) rfl (dA_one (dE_var (i := 1) rfl ⟨[tD t, .str a], (t, a), rfl, rfl, ⟨gd, ha⟩, fun r o hr' => ?_⟩))))))
  refine dSs_cons (dS_expr (dE_fn C2 hr hg (by omega) (dA_cons (dE_var (i := 0) rfl (dA_one (dE_var (i := 2) rfl ⟨[tD t, .str b], (t, b), rfl, rfl, ⟨gd, hb⟩, fun r o hr' => ?_⟩))))))
  refine dSs_cons (dS_asg (dE_tup (dA_cons (dE_fn C3 hr hg (by omega) (dA_cons (dE_var (i := 0) rfl (dA_one (dE_var (i := 1) rfl ⟨[tD t, .str a], (t, a), rfl, rfl, ⟨gd, ha⟩, fun r1 o1 hr1 => ?_⟩))))))))
  refine dA_one (dE_fn C3 hr hg (by omega) (dA_cons (dE_var (i := 0) rfl (dA_one (dE_var (i := 2) rfl ⟨[tD t, .str b], (t, b), rfl, rfl, ⟨gd, hb⟩, fun r2 o2 hr2 => ⟨[r1, r2], rfl, by simp, ?_⟩⟩)))))
  replace hr1 : r1 = .lst ((way t a).map .str) := hr1
  replace hr2 : r2 = .lst ((way t b).map .str) := hr2
  subst hr1 hr2
  refine dG_tup rfl (dGs_cons (dG_name (i := 3) hN (dGs_cons (dG_name (i := 4) hN (dGs_nil ?_))))) rfl
  show dSs _ _ [.im (tD t), .im (.str a), .im (.str b), .im (.lst ((way t a).map .str)), .im (.lst ((way t b).map .str)), .un, .un, .un] _
  refine dSs_cons (dS_set (i := 5) hN (dE_ix (dE_new (dN_fl Str [("hall", 7)] rfl hN (blk rfl) (sub rfl) (dI_list (dE_var (i := 3) rfl ⟨_, .inl rfl, ?_⟩))))))
  refine ⟨way t a, .str, .str, fun z => decide (z ∈ way t b), rfl, by omega, fun o mo s0 H0 C cl fp => ?_, ?_⟩
  · refine dG_name (i := 7) hN fun s0 H0 C cl fp => dTs_one (dT_cmp (dE_inS (dE_var (i := 7) rfl (dE_var (i := 4) rfl ⟨_, _, rfl, rfl, _, rfl, rfl, fun _ s0 H0 C cl fp => dE_var (i := 7) rfl ⟨rfl, rfl⟩, fun _ => rfl⟩))))
  obtain ⟨r, er⟩ := m.first
  rw [er]
  have h0 : atI (List.map D.str (x :: r)) 0 = some (.str x) := atI_nat (j := 0) rfl
  refine dE_int ⟨_, 0, .str x, rfl, rfl, h0, ?_⟩
  show dSs _ _ [.im (tD t), .im (.str a), .im (.str b), .im (.lst ((way t a).map .str)), .im (.lst ((way t b).map .str)), .im (.str x), .un, .un] _
  refine dSs_cons (dS_set (i := 6) hN (dE_new (dN_slice (dE_var (i := 4) rfl (dE_index (dE_var (i := 4) rfl ⟨_, rfl, dE_var (i := 5) rfl ⟨_, rfl, m.xB, _, rfl, _, .inl rfl, ?_⟩⟩))))))
  rw [m.ixB, cut_to (by omega), m.cutB]
  show dSs _ _ [.im (tD t), .im (.str a), .im (.str b), .im (.lst ((way t a).map .str)), .im (.lst ((way t b).map .str)), .im (.str x), .im (.lst (p.map .str)), .un] _
  refine dSs_cons (dS_ret (dE_tuple T.tuple (dE_new (dN_cat (dE_new (dN_slice (dE_var (i := 3) rfl (dE_add (dE_index (dE_var (i := 3) rfl ⟨_, rfl, dE_var (i := 5) rfl ⟨_, rfl, m.xA, dE_int ⟨_, _, rfl, rfl, _, rfl, _, .inl rfl, ?_⟩⟩⟩))))))))))
  have e1 : ((List.idxOf x (way t a) : Nat) : Int) + 1 = ((q.length + 1 : Nat) : Int) := by rw [m.ixA]; omega
  rw [e1, cut_to (by omega), m.cutA]
  refine dE_new (dN_rev (dE_var (i := 6) rfl ⟨_, rfl, _, _, rfl, rfl, ?_, _, rfl, _, Outs.none, ?_⟩))
  · simp; omega
  · show D.tup _ = .tup (BtwA.due _ |>.map .str)
    simp [BtwA.due]
end
section
variable {P : Program} {w : World} {K : PySem.W.Frag} {mg : Str → Option Value} {base : Heap} {f : Addr} {fd : FuncData}
/-! ### the bag of draws -/
structure BagA where
  cell : Int
  at' : Int
abbrev bagO (d m t : Int) : O := oL [.int d, .int m, .int t]
abbrev cBag : CtN where
  α := BagA
  ins := fun x => [.im (.int x.cell), .im (.int x.at')]
  ok := fun x => 0 ≤ x.at' ∧ x.at' ≤ 1000
  post := fun x ds _ => ∃ d m, ds = [.int d, .int m, .int 0]
theorem cpow_lit {i j : Int} (h : 0 ≤ j) (h2 : j ≤ 1000000) (h3 : i.natAbs < 2 ^ 64) : CPow i j := ⟨h, h2, h3⟩
theorem ok_new_bag (F : Fun K "_law_new_bag" "_law_new_bag" s_law_new_bag f fd) : FnG P w K mg base CX0 1 f fd ["cell", "at"] (spN K cBag) := by
  refine fnN (k := 0) F sc_law_new_bag (fun _ => rfl) ?_
  rintro cdv A out s H E hr hg ⟨c, a⟩ ⟨h1, h2⟩
  replace h1 : 0 ≤ a := h1
  replace h2 : a ≤ 1000 := h2
  show dSs _ _ [.im (.int c), .im (.int a), .un] _
  have hN := sc_law_new_bag.nd
  have cp : CPow 10 18 := cpow_lit (by omega) (by omega) (by decide)
  have last : ∀ d : Int, dSs (bodyX P w K mg base ["cell", "at", "digits"] "_law_new_bag" (defScope s_law_new_bag) f cdv A out s H E) ((defBody s_law_new_bag).drop 2) [.im (.int c), .im (.int a), .im (.int d)] (ouN cBag ⟨c, a⟩) := by
    intro d
    refine dSs_cons (dS_retN (dN_lst (dA_cons (dE_var (i := 2) rfl (dA_cons (dE_add (dE_mod (dE_var (i := 0) rfl (dE_int ⟨_, _, rfl, rfl, by omega, ?_⟩)))))))))
    refine dE_mul (dE_int (dE_var (i := 1) rfl ⟨_, _, rfl, rfl, wide_mul (a := 64) (b := 64) (by omega) (by omega) (by omega) (by omega) (by omega), _, _, rfl, rfl, ?_⟩))
    refine dA_one (dE_int ⟨[.int d, .int _, .int 0], rfl, by simp, _, Outs.none, d, _, rfl⟩)
  refine dSs_cons (dS_set (i := 2) hN (dE_int ?_))
  refine dSs_cons (dS_if (dT_cmp (dE_ge (dE_var (i := 0) rfl (dE_pow (dE_int (dE_int ⟨_, _, rfl, rfl, cp, _, _, rfl, rfl, _, rfl, fun _ => ?_, fun _ => ?_⟩)))))))
  · refine dSs_cons (dS_set (i := 2) hN (dE_sub (dE_var (i := 0) rfl (dE_pow (dE_int (dE_int ⟨_, _, rfl, rfl, cp, _, _, rfl, rfl, ?_⟩))))))
    exact dSs_nil (last _)
  · exact dSs_nil (last _)
structure DrA where
  v : V
  d : Int
  m : Int
  t : Int
  n : Int
structure DrA.Ok (x : DrA) : Prop where
  t0 : 0 ≤ x.t
  t1 : x.t ≤ 1000000
  n0 : 0 < x.n
  n1 : x.n < 2 ^ 32
abbrev cDraw : Ctr where
  α := DrA
  ins := fun x => [.ow x.v (bagO x.d x.m x.t), .im (.int x.n)]
  ok := DrA.Ok
  post := fun x r o => ∃ d' t' i : Int, r = .int i ∧ (0 ≤ i ∧ i < x.n) ∧ (0 ≤ t' ∧ t' ≤ x.t + 1) ∧ o = [.ow x.v (bagO d' x.m t'), .un]
abbrev PRI : List Int := [2147483647, 2147483629, 2147483587, 2147483579, 2147483563, 2147483549, 2147483543]
theorem pri_at {i : Int} (h : 0 ≤ i ∧ i < 7) : ∃ p : Int, atI (PRI.map D.int) i = some (.int p) ∧ 2147483543 ≤ p ∧ p ≤ 2147483647 := by
  have : i = 0 ∨ i = 1 ∨ i = 2 ∨ i = 3 ∨ i = 4 ∨ i = 5 ∨ i = 6 := by omega
  rcases this with rfl | rfl | rfl | rfl | rfl | rfl | rfl
  · exact ⟨2147483647, atI_nat (j := 0) rfl, by omega, by omega⟩
  · exact ⟨2147483629, atI_nat (j := 1) rfl, by omega, by omega⟩
  · exact ⟨2147483587, atI_nat (j := 2) rfl, by omega, by omega⟩
  · exact ⟨2147483579, atI_nat (j := 3) rfl, by omega, by omega⟩
  · exact ⟨2147483563, atI_nat (j := 4) rfl, by omega, by omega⟩
  · exact ⟨2147483549, atI_nat (j := 5) rfl, by omega, by omega⟩
  · exact ⟨2147483543, atI_nat (j := 6) rfl, by omega, by omega⟩
theorem mod_bd {a p : Int} (h : 0 < p) : 0 ≤ a % p ∧ a % p < p := ⟨Int.emod_nonneg _ (by omega), Int.emod_lt_of_pos _ h⟩
theorem mul_bd {a b A B : Int} (ha : 0 ≤ a) (hA : a ≤ A) (hb : 0 ≤ b) (hB : b ≤ B) : 0 ≤ a * b ∧ a * b ≤ A * B := ⟨Int.mul_nonneg ha hb, Int.mul_le_mul hA hB hb (by omega)⟩
theorem cmul_of {i j : Int} (h1 : 0 ≤ i) (h2 : i < 2 ^ 64) (h3 : 0 ≤ j) (h4 : j < 2 ^ 64) : CMulW i j :=
  wide_mul (a := 64) (b := 64) (by omega) (by omega) (by omega) (by omega) (by omega)
theorem ok_draw (F : Fun K "_law_draw" "_law_draw" s_law_draw f fd) : FnG P w K mg base CX0 1 f fd ["bag", "many"] (spD K cDraw) := by
  refine fnD (k := 0) F sc_law_draw (fun _ => rfl) ?_
  rintro cdv A out s H E hr hg ⟨v, d, m, t, n⟩ ⟨t0, t1, n0, n1⟩
  replace t0 : 0 ≤ t := t0
  replace t1 : t ≤ 1000000 := t1
  replace n0 : 0 < n := n0
  replace n1 : n < 2 ^ 32 := n1
  show dSs _ _ [.ow v (bagO d m t), .im (.int n), .un, .un, .un, .un] _
  have hN := sc_law_draw.nd
  have a0 : ∀ d m t : Int, atI [D.int d, .int m, .int t] 0 = some (.int d) := fun d m t => atI_nat (j := 0) rfl
  have a1 : ∀ d m t : Int, atI [D.int d, .int m, .int t] 1 = some (.int m) := fun d m t => atI_nat (j := 1) rfl
  have a2 : ∀ d m t : Int, atI [D.int d, .int m, .int t] 2 = some (.int t) := fun d m t => atI_nat (j := 2) rfl
  have dv : ∀ i : Int, CDivW i n := fun i => wide_div (b := 64) n0 (by omega) (by omega) (by omega)
  refine dSs_cons (dS_if (dT_cmp (dE_gt (dE_ixO (i := 0) (w := v) (o := bagO d m t) (hi := rfl) (dE_int ⟨_, _, _, _, rfl, rfl, a0 d m t, dE_int ⟨_, _, rfl, rfl, _, rfl, fun hk => ?_, fun hk => ?_⟩⟩)))))
  · have hd : 0 < d := by simpa using hk
    refine dSs_cons (dS_set (i := 2) hN (dE_mod (dE_ixO (i := 0) (w := v) (o := bagO d m t) (hi := rfl) (dE_int ⟨_, _, _, _, rfl, rfl, a0 d m t, dE_var (i := 1) rfl ⟨_, _, rfl, rfl, n0, ?_⟩⟩))))
    refine dSs_cons (dS_item (i := 0) (w := v) (o := [D.int d, .int m, .int t].map O.im) rfl (dE_fdiv (dE_ixO (i := 0) (w := v) (o := bagO d m t) (hi := rfl) (dE_int ⟨_, _, _, _, rfl, rfl, a0 d m t, dE_var (i := 1) rfl ⟨_, _, rfl, rfl, dv _, ?_⟩⟩))))
    refine dE_int ⟨_, _, 0, rfl, rfl, rfl, ?_⟩
    refine dSs_cons (dS_ret (dE_var (i := 2) rfl ⟨_, Outs.first rfl, d / n, t, _, rfl, mod_bd n0, ⟨t0, show t ≤ t + 1 by omega⟩, rfl⟩))
  · refine dSs_nil ?_
    refine dSs_cons (dS_item (i := 0) (w := v) (o := [D.int d, .int m, .int t].map O.im) rfl (dE_add (dE_ixO (i := 0) (w := v) (o := bagO d m t) (hi := rfl) (dE_int ⟨_, _, _, _, rfl, rfl, a2 d m t, dE_int ⟨_, _, rfl, rfl, ?_⟩⟩))))
    refine dE_int ⟨_, _, 2, rfl, rfl, rfl, ?_⟩
    obtain ⟨u, hu⟩ : ∃ u, u = t + 1 := ⟨_, rfl⟩
    rw [← hu]
    have u0 : 0 ≤ u := by omega
    have u1 : u ≤ 1000001 := by omega
    show dSs _ _ [.ow v (bagO d m u), .im (.int n), .un, .un, .un, .un] _
    refine dSs_cons (dS_set (i := 3) hN (dE_new (dN_lst (dA_cons (dE_int (dA_cons (dE_int (dA_cons (dE_int (dA_cons (dE_int (dA_cons (dE_int (dA_cons (dE_int (dA_cons (dE_int (dA_nil ⟨PRI.map D.int, rfl, by simp, ?_⟩))))))))))))))))))
    show dSs _ _ [.ow v (bagO d m u), .im (.int n), .un, .im (.lst (PRI.map D.int)), .un, .un] _
    obtain ⟨p1, e1, l1, m1⟩ := pri_at (mod_bd (a := u) (p := 7) (by omega))
    obtain ⟨p2, e2, l2, m2⟩ := pri_at (mod_bd (a := u + 3) (p := 7) (by omega))
    obtain ⟨p3, e3, l3, m3⟩ := pri_at (mod_bd (a := u + 5) (p := 7) (by omega))
    have b1 := mod_bd (a := m) (p := p1) (by omega)
    have b2 := mul_bd (a := m % p1) (b := 2 * u + 1) (A := 2147483647) (B := 2000003) b1.1 (by omega) (by omega) (by omega)
    refine dSs_cons (dS_set (i := 4) hN (dE_mod (dE_pow (dE_add (dE_mul (dE_mod (dE_ixO (i := 0) (w := v) (o := bagO d m u) (hi := rfl) (dE_int ⟨_, _, _, _, rfl, rfl, a1 d m u, ?_⟩))))))))
    refine dE_ix (dE_var (i := 3) rfl (dE_mod (dE_ixO (i := 0) (w := v) (o := bagO d m u) (hi := rfl) (dE_int ⟨_, _, _, _, rfl, rfl, a2 d m u, dE_int ⟨_, _, rfl, rfl, by omega, _, _, _, rfl, rfl, e1, _, _, rfl, rfl, by omega, ?_⟩⟩))))
    refine dE_add (dE_mul (dE_int (dE_ixO (i := 0) (w := v) (o := bagO d m u) (hi := rfl) (dE_int ⟨_, _, _, _, rfl, rfl, a2 d m u, _, _, rfl, rfl, cmul_of (by omega) (by omega) (by omega) (by omega), dE_int ⟨_, _, rfl, rfl, _, _, rfl, rfl, cmul_of (by omega) (by omega) (by omega) (by omega), ?_⟩⟩))))
    refine dE_mul (dE_int (dE_ixO (i := 0) (w := v) (o := bagO d m u) (hi := rfl) (dE_int ⟨_, _, _, _, rfl, rfl, a2 d m u, _, _, rfl, rfl, cmul_of (by omega) (by omega) (by omega) (by omega), _, _, rfl, rfl, dE_int ⟨_, _, rfl, rfl, cpow_lit (by omega) (by omega) (by omega), ?_⟩⟩)))
    refine dE_ix (dE_var (i := 3) rfl (dE_mod (dE_add (dE_ixO (i := 0) (w := v) (o := bagO d m u) (hi := rfl) (dE_int ⟨_, _, _, _, rfl, rfl, a2 d m u, dE_int ⟨_, _, rfl, rfl, dE_int ⟨_, _, rfl, rfl, by omega, _, _, _, rfl, rfl, e2, _, _, rfl, rfl, by omega, ?_⟩⟩⟩)))))
    obtain ⟨x, hx⟩ : ∃ x, x = (m % p1 * (2 * u + 1) + 7919 * u) ^ (3 : Int).toNat % p2 := ⟨_, rfl⟩
    rw [← hx]
    have bx := mod_bd (a := (m % p1 * (2 * u + 1) + 7919 * u) ^ (3 : Int).toNat) (p := p2) (by omega)
    rw [← hx] at bx
    have bxx := mul_bd (a := x) (b := x) (A := 2147483647) (B := 2147483647) bx.1 (by omega) bx.1 (by omega)
    have bm := mod_bd (a := m) (p := 998244353) (by omega)
    show dSs _ _ [.ow v (bagO d m u), .im (.int n), .un, .im (.lst (PRI.map D.int)), .im (.int x), .un] _
    refine dSs_cons (dS_set (i := 5) hN (dE_add (dE_add (dE_mul (dE_var (i := 4) rfl (dE_var (i := 4) rfl ⟨_, _, rfl, rfl, cmul_of (by omega) (by omega) (by omega) (by omega), ?_⟩))))))
    refine dE_mod (dE_ixO (i := 0) (w := v) (o := bagO d m u) (hi := rfl) (dE_int ⟨_, _, _, _, rfl, rfl, a1 d m u, dE_int ⟨_, _, rfl, rfl, by omega, _, _, rfl, rfl, ?_⟩⟩))
    refine dE_mul (dE_int (dE_ixO (i := 0) (w := v) (o := bagO d m u) (hi := rfl) (dE_int ⟨_, _, _, _, rfl, rfl, a2 d m u, _, _, rfl, rfl, cmul_of (by omega) (by omega) (by omega) (by omega), _, _, rfl, rfl, ?_⟩)))
    obtain ⟨y, hy⟩ : ∃ y, y = x * x + m % 998244353 + 104729 * u := ⟨_, rfl⟩
    rw [← hy]
    have y0 : 0 ≤ y := by omega
    have y1 : y < 2 ^ 64 := by omega
    show dSs _ _ [.ow v (bagO d m u), .im (.int n), .un, .im (.lst (PRI.map D.int)), .im (.int x), .im (.int y)] _
    refine dSs_cons (dS_ret (dE_mod (dE_fdiv (dE_mod (dE_pow (dE_var (i := 5) rfl (dE_int ⟨_, _, rfl, rfl, cpow_lit (by omega) (by omega) (by omega), ?_⟩)))))))
    refine dE_ix (dE_var (i := 3) rfl (dE_mod (dE_add (dE_ixO (i := 0) (w := v) (o := bagO d m u) (hi := rfl) (dE_int ⟨_, _, _, _, rfl, rfl, a2 d m u, dE_int ⟨_, _, rfl, rfl, dE_int ⟨_, _, rfl, rfl, by omega, _, _, _, rfl, rfl, e3, _, _, rfl, rfl, by omega, ?_⟩⟩⟩)))))
    refine dE_int ⟨_, _, rfl, rfl, wide_div (b := 64) (by omega) (by omega) (by omega) (by omega), dE_var (i := 1) rfl ⟨_, _, rfl, rfl, n0, _, Outs.first rfl, d, u, _, rfl, mod_bd n0, ⟨u0, ?_⟩, rfl⟩⟩
    show u ≤ t + 1
    omega
end
/-! ### unlike names, in plain words -/
theorem pigeon : ∀ (l m : List (List Nat)), l.Nodup → (∀ x ∈ l, x ∈ m) → l.length ≤ m.length
  | [], _, _, _ => Nat.zero_le _
  | a :: l, m, nd, sub => by
    have h1 := List.nodup_cons.mp nd
    have ha : a ∈ m := sub a List.mem_cons_self
    have := pigeon l (m.erase a) h1.2 fun x hx => (List.mem_erase_of_ne (fun e : x = a => h1.1 (by rw [← e]; exact hx))).mpr (sub x (List.mem_cons_of_mem _ hx))
    have h2 := List.length_erase_of_mem ha
    have h3 := List.length_pos_of_mem ha
    simp only [List.length_cons]
    omega
abbrev ABC : List Nat := LET.cps.toList
theorem abc_nd : ABC.Nodup := by decide +kernel
theorem abc_len : ABC.length = 26 := by decide +kernel
theorem abc_lt : ∀ c ∈ ABC, c < 128 := by decide +kernel
structure IsW (l : List Nat) : Prop where
  lo : 1 ≤ l.length
  hi : l.length ≤ 8
  abc : ∀ c ∈ l, c ∈ ABC
theorem isNm_iff (s : Str) : isNm (.str s) = true ↔ IsW s.cps.toList := by
  have e : s.length = s.cps.toList.length := by simp [Str.length]
  simp only [isNm, Bool.and_eq_true, decide_eq_true_eq, List.all_map, List.all_eq_true, Function.comp, id, e]
  exact ⟨fun h => ⟨h.1.1, h.1.2, fun c m => h.2 c m⟩, fun h => ⟨⟨h.lo, h.hi⟩, h.abc⟩⟩
def someL (w : List Nat) : List (List Nat) := ([w] ++ ABC.map fun c => w.take 7 ++ [c]) ++ ABC.map fun c => w.take 6 ++ [c] ++ [c]
theorem some_isW {w : List Nat} (h : IsW w) : ∀ x ∈ someL w, IsW x := by
  intro x hx
  have l := h.lo
  have u := h.hi
  rcases List.mem_append.mp hx with hx | hx
  · rcases List.mem_append.mp hx with hx | hx
    · rw [List.mem_singleton] at hx
      rw [hx]; exact h
    · obtain ⟨c, mc, rfl⟩ := List.mem_map.mp hx
      refine ⟨by simp, by simp; omega, fun a ha => ?_⟩
      rcases List.mem_append.mp ha with ha | ha
      · exact h.abc a (List.mem_of_mem_take ha)
      · rw [List.mem_singleton] at ha; rw [ha]; exact mc
  · obtain ⟨c, mc, rfl⟩ := List.mem_map.mp hx
    refine ⟨by simp, by simp; omega, fun a ha => ?_⟩
    rcases List.mem_append.mp ha with ha | ha
    · rcases List.mem_append.mp ha with ha | ha
      · exact h.abc a (List.mem_of_mem_take ha)
      · rw [List.mem_singleton] at ha; rw [ha]; exact mc
    · rw [List.mem_singleton] at ha; rw [ha]; exact mc
theorem nodup_map {α β : Type} {f : α → β} (hf : ∀ a b, f a = f b → a = b) : ∀ {l : List α}, l.Nodup → (l.map f).Nodup
  | [], _ => List.nodup_nil
  | a :: l, h => by
    have h1 := List.nodup_cons.mp h
    refine List.nodup_cons.mpr ⟨fun m => ?_, nodup_map hf h1.2⟩
    obtain ⟨b, mb, e⟩ := List.mem_map.mp m
    exact h1.1 (hf _ _ e ▸ mb)
theorem few_one {p : Nat → Bool} (hp : ∀ a b, p a = true → p b = true → a = b) : ∀ {l : List Nat}, l.Nodup → l.length ≤ (l.filter fun c => !p c).length + 1
  | [], _ => by simp
  | a :: l, h => by
    have h1 := List.nodup_cons.mp h
    cases ha : p a with
    | false =>
      have := few_one hp h1.2
      simp [List.filter_cons, ha]
      simpa using this
    | true =>
      have : l.filter (fun c => !p c) = l := List.filter_eq_self.mpr fun c mc => by
        cases hc : p c with
        | false => rfl
        | true => exact absurd (hp a c ha hc ▸ mc) h1.1
      simp [List.filter_cons, ha, this]
theorem some_new {F : List (List Nat)} (hF : F.length ≤ 39) (w : List Nat) : ∃ x, x ∈ someL w ∧ x ∉ F := by
  apply Classical.byContradiction
  intro no
  have all : ∀ x ∈ someL w, x ∈ F := fun x hx => Classical.byContradiction fun k => no ⟨x, hx, k⟩
  let q : Nat → Bool := fun c => decide (w.take 6 ++ [c] = w.take 7)
  have one : ∀ a b, q a = true → q b = true → a = b := fun a b ha hb => by
    have ha : w.take 6 ++ [a] = w.take 7 := of_decide_eq_true ha
    have hb : w.take 6 ++ [b] = w.take 7 := of_decide_eq_true hb
    have := ha.trans hb.symm
    simpa using this
  let C := ABC.map (fun c => w.take 7 ++ [c]) ++ (ABC.filter fun c => !q c).map fun c => w.take 6 ++ [c] ++ [c]
  have nd : C.Nodup := by
    refine List.nodup_append.mpr ⟨nodup_map (fun a b e => by simpa using e) abc_nd, nodup_map (fun a b e => ?_) (List.Nodup.sublist List.filter_sublist abc_nd), ?_⟩
    · have := List.append_inj_right' e rfl
      simpa using this
    · intro x hx y hy e
      obtain ⟨a, _, rfl⟩ := List.mem_map.mp hx
      obtain ⟨b, mb, rfl⟩ := List.mem_map.mp hy
      have h2 := (List.mem_filter.mp mb).2
      have e1 := List.append_inj_left' e rfl
      have : q b = true := decide_eq_true e1.symm
      rw [this] at h2
      cases h2
  have sub : ∀ x ∈ C, x ∈ F := fun x hx => all x (by
    rcases List.mem_append.mp hx with hx | hx
    · exact List.mem_append_left _ (List.mem_append_right _ hx)
    · refine List.mem_append_right _ ?_
      obtain ⟨b, mb, rfl⟩ := List.mem_map.mp hx
      exact List.mem_map.mpr ⟨b, (List.mem_filter.mp mb).1, rfl⟩)
  have h1 := pigeon C F nd sub
  have h2 := few_one one abc_nd
  have h3 := abc_len
  have h4 : C.length = 26 + (ABC.filter fun c => !q c).length := by
    simp only [C, List.length_append, List.length_map, h3]
  omega
/-! texts -/
abbrev sg (k : Nat) : Str := ⟨#[k]⟩
theorem cut_cps (z : Str) (n : Nat) : (cutS z none (some (n : Int))).cps.toList = z.cps.toList.take n := by
  have e : z.length = z.cps.toList.length := by simp [Str.length]
  unfold cutS
  rw [HT.sIx_none, HT.sIx_nat]
  simp only [List.drop_zero, Nat.sub_zero, e]
  rw [List.take_eq_take_iff]
  simp
theorem app_cps (a b : Str) : (a ++ b).cps.toList = a.cps.toList ++ b.cps.toList := by
  show (a.cps ++ b.cps).toList = _
  simp
def someS (z : Str) : List Str := ([z] ++ ABC.map fun c => cutS z none (some 7) ++ sg c) ++ ABC.map fun c => cutS z none (some 6) ++ sg c ++ sg c
theorem someS_cps (z : Str) : (someS z).map (fun s => s.cps.toList) = someL z.cps.toList := by
  unfold someS someL
  have c7 := cut_cps z 7
  have c6 := cut_cps z 6
  simp only [List.map_append, List.map_cons, List.map_nil, List.map_map, Function.comp_def, app_cps]
  rw [show ((7 : Nat) : Int) = 7 from rfl] at c7
  rw [show ((6 : Nat) : Int) = 6 from rfl] at c6
  rw [c7, c6]
theorem someS_new {ns : List Str} (h : ns.length ≤ 39) (z : Str) : ∃ x r, (someS z).filter (fun s => !decide (s ∈ ns)) = x :: r ∧ x ∈ someS z ∧ x ∉ ns := by
  obtain ⟨y, my, ny⟩ := some_new (F := ns.map fun s => s.cps.toList) (by rw [List.length_map]; exact h) z.cps.toList
  rw [← someS_cps] at my
  obtain ⟨s, ms, rfl⟩ := List.mem_map.mp my
  have ns' : s ∉ ns := fun m => ny (List.mem_map.mpr ⟨s, m, rfl⟩)
  have hm : s ∈ (someS z).filter (fun s => !decide (s ∈ ns)) := List.mem_filter.mpr ⟨ms, by simpa using ns'⟩
  match hl : (someS z).filter (fun s => !decide (s ∈ ns)), hm with
  | x :: r, _ =>
    have hx : x ∈ (someS z).filter (fun s => !decide (s ∈ ns)) := by rw [hl]; exact List.mem_cons_self
    obtain ⟨a, b⟩ := List.mem_filter.mp hx
    exact ⟨x, r, rfl, a, by simpa using b⟩
theorem someS_nm {z x : Str} (h : isNm (.str z) = true) (m : x ∈ someS z) : isNm (.str x) = true := by
  rw [isNm_iff] at h ⊢
  refine some_isW h _ ?_
  rw [← someS_cps]
  exact List.mem_map.mpr ⟨x, m, rfl⟩
theorem someS_len (z : Str) : (someS z).length = 53 := by
  unfold someS
  simp only [List.length_append, List.length_map, abc_len]
  rfl
theorem join_sg : ∀ ks : List Nat, (Str.join "" (ks.map sg)).cps.toList = ks
  | [] => rfl
  | [k] => rfl
  | k :: j :: ks => by
    show (sg k ++ ("" : Str) ++ Str.join "" ((j :: ks).map sg)).cps.toList = _
    rw [app_cps, app_cps, join_sg (j :: ks)]
    rfl
section
variable {X : Cx} {Γ : Ga} {Q : D → Ga → Prop} {e : Expr} {pos p pb : Pos} {x : Str} {i n : Nat}
theorem dE_draw (C : Fd X.prog X.w X.K X.mg X.base "_law_draw" 1 ["bag", "many"] cDraw) (hr : Room n X.A) (hgd : X.A.guards = some []) (hn : 1 ≤ n) {v : V} {o : O} (hi : Γ[i]? = some (.ow v o))
    (h : dE X e Γ fun z Γ1 => ∃ n d m t : Int, z = .int n ∧ Γ1[i]? = some (.ow v (bagO d m t)) ∧ (0 < n ∧ n < 2 ^ 32) ∧ (0 ≤ t ∧ t ≤ 1000000) ∧ ∀ d' t' r : Int, (0 ≤ r ∧ r < n) → (0 ≤ t' ∧ t' ≤ t + 1) → Q (.int r) (Γ1.set i (.ow v (bagO d' m t'))))
    (hg : Gl X "_law_draw" := by rfl) (he : starEach (.Name x pb :: [e]) X.env = (false, eval (.Name x pb) X.env) :: starEach [e] X.env := by rfl) (hpl : (backTo pos (starEach [e] X.env)).any (·.1) = false := by rfl)
    (hN : X.N[i]? = some x := by rfl) (hv : Vis X.env.scope x := by first | exact Or.inl rfl | exact Or.inr (Or.inl rfl) | exact Or.inr (Or.inr rfl)) (hd : (x == ("__debug__" : Str)) = false := by decide)
    (hcd : (x == ("__classdict__" : Str)) = false := by decide) (hs1 : starEach [e] X.env = [(false, eval e X.env)] := by rfl) : dE X (.Call (.Name "_law_draw" p) [.Name x pb, e] [] pos) Γ Q := by
  refine dE_fnO C hr hgd hn (dA_own hi (dA_one (dE_mono h ?_) hs1) he hN hv hd hcd) hg (by decide) he hpl
  rintro z Γ1 ⟨n, d, m, t, rfl, g, hn, ht, k⟩
  refine ⟨i, [.int n], ⟨v, d, m, t, n⟩, v, _, rfl, g, rfl, ⟨ht.1, ht.2, hn.1, hn.2⟩, ?_⟩
  rintro r o ⟨d', t', j, rfl, hj, ht', rfl⟩
  exact ⟨_, _, rfl, k d' t' j hj ht'⟩
end
/-! ### _law_unlike_names -/
section
variable {P : Program} {w : World} {K : PySem.W.Frag} {mg : Str → Option Value} {base : Heap} {f : Addr} {fd : FuncData}
structure NmA where
  v : V
  d : Int
  m : Int
  t : Int
  n : Nat
structure NmA.Ok (x : NmA) : Prop where
  t0 : 0 ≤ x.t
  t1 : x.t ≤ 900000
  n0 : 1 ≤ x.n
  n1 : x.n ≤ 40
abbrev cNames : Ctr where
  α := NmA
  ins := fun x => [.ow x.v (bagO x.d x.m x.t), .im (.int x.n)]
  ok := NmA.Ok
  post := fun x r o => ∃ (ns : List Str) (d' t' : Int), r = .lst (ns.map .str) ∧ ns.length = x.n ∧ ns.Nodup ∧ (∀ s ∈ ns, isNm (.str s) = true) ∧ (0 ≤ t' ∧ t' ≤ x.t + 1000) ∧ o = [.ow x.v (bagO d' x.m t'), .un]
theorem size_at {r j : Int} (hr : 0 ≤ r ∧ r < 8) (hj : 0 ≤ j ∧ j < 4) : ∃ z : Int, atI [D.int 1, .int 2, .int 8, .int (1 + r)] j = some (.int z) ∧ 1 ≤ z ∧ z ≤ 8 := by
  have : j = 0 ∨ j = 1 ∨ j = 2 ∨ j = 3 := by omega
  rcases this with rfl | rfl | rfl | rfl
  · exact ⟨1, atI_nat (j := 0) rfl, by omega, by omega⟩
  · exact ⟨2, atI_nat (j := 1) rfl, by omega, by omega⟩
  · exact ⟨8, atI_nat (j := 2) rfl, by omega, by omega⟩
  · exact ⟨1 + r, atI_nat (j := 3) rfl, by omega, by omega⟩
theorem abc_at {r : Int} (h : 0 ≤ r ∧ r < 26) : ∃ c, atI LET.cps.toList r = some c ∧ c ∈ ABC := by
  obtain ⟨k, rfl⟩ : ∃ k : Nat, r = (k : Int) := ⟨r.toNat, by omega⟩
  have hk : k < ABC.length := by rw [abc_len]; omega
  exact ⟨ABC[k], atI_nat (List.getElem?_eq_getElem hk), List.getElem_mem hk⟩
theorem nm_okS {s : Str} (h : isNm (.str s) = true) : okS s = true := by
  rw [isNm_iff] at h
  unfold okS
  rw [List.all_eq_true]
  intro c hc
  have := abc_lt c (h.abc c hc)
  exact decide_eq_true (by omega)
theorem ok_unlike_names (T : Gs mg) (C : Fd P w K mg base "_law_draw" 1 ["bag", "many"] cDraw) (F : Fun K "_law_unlike_names" "_law_unlike_names" s_law_unlike_names f fd) : FnG P w K mg base CX0 2 f fd ["bag", "many"] (spD K cNames) := by
  refine fnD (k := 1) F sc_law_unlike_names (fun _ => rfl) ?_
  rintro cdv A out s H E hr hg ⟨v, d, m, t, n⟩ ⟨t0, t1, n0, n1⟩
  replace t0 : 0 ≤ t := t0
  replace t1 : t ≤ 900000 := t1
  replace n0 : 1 ≤ n := n0
  replace n1 : n ≤ 40 := n1
  show dSs _ _ [.ow v (bagO d m t), .im (.int n), .un, .un, .un, .un, .un, .un, .un, .un, .un] _
  have hN := sc_law_unlike_names.nd
  refine dSs_cons (dS_set (i := 2) hN (dE_str ?_))
  refine dSs_cons (dS_setO (i := 3) hN (dN_lst (dA_nil ⟨[], rfl, by simp, fun p0 => ?_⟩)))
  show dSs _ _ [.ow v (bagO d m t), .im (.int n), .im (.str LET), .ow (.ref p0) (oL []), .un, .un, .un, .un, .un, .un, .un] _
  refine dSs_cons (dS_for PassesOwn.never rfl (dI_range1 T.range (dA_one (dE_var (i := 1) rfl ⟨n, rfl, by omega, by omega, ?_⟩))))
  refine ⟨fun k Γ => ∃ (ns : List Str) (d' t' : Int) (e4 e5 e6 e7 e8 e9 e10 : Sl), Γ = [.ow v (bagO d' m t'), .im (.int n), .im (.str LET), .ow (.ref p0) (oL (ns.map .str)), e4, e5, e6, e7, e8, e9, e10] ∧ ns.length = k ∧ ns.Nodup ∧ (∀ s ∈ ns, isNm (.str s) = true) ∧ (0 ≤ t' ∧ t' ≤ t + 20 * k),
    ⟨[], d, t, _, _, _, _, _, _, _, rfl, rfl, List.nodup_nil, nofun, t0, by omega⟩, ?_, ?_⟩
  · rintro k it Γ hit ⟨ns, d0, u0, e4, e5, e6, e7, e8, e9, e10, rfl, hl, nd, nm, lo, hi⟩
    have hk : k < n := by
      have := (List.getElem?_eq_some_iff.mp hit).1
      rw [upto_len] at this
      omega
    refine dG_name (i := 4) hN ?_
    show dSs _ _ [.ow v (bagO d0 m u0), .im (.int n), .im (.str LET), .ow (.ref p0) (oL (ns.map .str)), .im it, e5, e6, e7, e8, e9, e10] _
    refine dSs_cons (dS_set (i := 5) hN (dE_ix (dE_new (dN_lst (dA_cons (dE_int (dA_cons (dE_int (dA_cons (dE_int (dA_one (dE_add (dE_int (dE_draw C hr hg (by omega) (i := 0) rfl (dE_int ⟨8, d0, m, u0, rfl, rfl, by omega, by omega, fun d1 u1 r1 h1 g1 => ⟨_, _, rfl, rfl, [.int 1, .int 2, .int 8, .int (1 + r1)], rfl, by simp, ?_⟩⟩)))))))))))))))
    refine dE_draw C hr hg (by omega) (i := 0) rfl (dE_int ⟨4, d1, m, u1, rfl, rfl, by omega, by omega, fun d2 u2 r2 h2 g2 => ?_⟩)
    obtain ⟨z, ez, z1, z8⟩ := size_at h1 h2
    refine ⟨_, r2, .int z, rfl, rfl, ez, ?_⟩
    show dSs _ _ [.ow v (bagO d2 m u2), .im (.int n), .im (.str LET), .ow (.ref p0) (oL (ns.map .str)), .im it, .im (.int z), e6, e7, e8, e9, e10] _
    refine dSs_cons (dS_set (i := 6) hN (dE_join (dE_str ⟨_, rfl, dE_new (dN_lc [("turn", 8)] rfl hN (blk rfl) (sub rfl) (dI_range1 T.range (dA_one (dE_var (i := 5) rfl ⟨z, rfl, by omega, by omega, ?_⟩))))⟩)))
    refine ⟨by rw [upto_len]; omega, fun j acc Γ => ∃ (ks : List Nat) (dd tt : Int), Γ = [.ow v (bagO dd m tt), .im (.int n), .im (.str LET), .ow (.ref p0) (oL (ns.map .str)), .im it, .im (.int z), e6, e7, .un, e9, e10] ∧ acc = (ks.map sg).map D.str ∧ ks.length = j ∧ (∀ c ∈ ks, c ∈ ABC) ∧ (0 ≤ tt ∧ tt ≤ u2 + j),
      ⟨[], d2, u2, rfl, rfl, rfl, nofun, by omega, by omega⟩, ?_, ?_⟩
    · rintro j acc it2 Γ2 hit2 _ ⟨ks, dd, tt, rfl, rfl, hj, hks, lt0, lt1⟩
      have hj8 : j < 8 := by
        have := (List.getElem?_eq_some_iff.mp hit2).1
        rw [upto_len] at this
        omega
      intro s0 H0 C0 cl fp
      refine dG_name (i := 8) hN fun s0 H0 C0 cl fp => dTs_nil ⟨fun _ s0 H0 C0 cl fp => dE_ixS (dE_var (i := 2) rfl (dE_draw C hr hg (by omega) (i := 0) rfl (dE_int ⟨26, dd, m, tt, rfl, rfl, by omega, by omega, fun d3 u3 r3 h3 g3 => ?_⟩))), nofun⟩
      obtain ⟨c, ec, mc⟩ := abc_at h3
      refine ⟨LET, r3, c, rfl, rfl, by decide +kernel, ec, ks ++ [c], d3, u3, rfl, by simp, by simp; omega, fun a ha => ?_, by omega, by omega⟩
      rcases List.mem_append.mp ha with ha | ha
      · exact hks a ha
      · rw [List.mem_singleton] at ha; rw [ha]; exact mc
    · rintro acc Γ2 ⟨ks, d3, u3, rfl, rfl, hj, hks, lt0, lt1⟩
      rw [upto_len] at hj lt1
      have hw := join_sg ks
      obtain ⟨wd, hwd⟩ : ∃ wd, wd = Str.join "" (ks.map sg) := ⟨_, rfl⟩
      have nw : isNm (.str wd) = true := by
        rw [isNm_iff, hwd, hw]
        exact ⟨by omega, by omega, hks⟩
      refine ⟨ks.map sg, .inl rfl, ?_, ?_⟩
      · have : ∀ l : List Nat, ((l.map sg).map (·.length)).sum = l.length := by
          intro l
          induction l with
          | nil => rfl
          | cons a l ih => simp only [List.map_cons, List.sum_cons, ih, List.length_cons]; show 1 + _ = _; omega
        rw [this, List.length_map]
        show _ + _ * 0 ≤ _
        omega
      rw [← hwd]
      show dSs _ _ [.ow v (bagO d3 m u3), .im (.int n), .im (.str LET), .ow (.ref p0) (oL (ns.map .str)), .im it, .im (.int z), .im (.str wd), e7, .un, e9, e10] _
      refine dSs_cut (fun Γ => ∃ (wd : Str) (d4 u4 : Int), Γ = [.ow v (bagO d4 m u4), .im (.int n), .im (.str LET), .ow (.ref p0) (oL (ns.map .str)), .im it, .im (.int z), .im (.str wd), e7, .un, e9, e10] ∧ isNm (.str wd) = true ∧ (0 ≤ u4 ∧ u4 ≤ u3 + 1)) ?_ ?_
      · have cf := cmps_lst (ss := ns) fun s ms => nm_okS (nm s ms)
        have c0 : Cmps (.lst []) := cmps_lst (ss := []) nofun
        refine dS_if (dT_bool (dW_and (dT_cmp (dE_neO (i := 3) hr.units rfl (dE_new (dN_lst (dA_nil ⟨[], rfl, by simp, ns.map .str, rfl, cf, c0, _, rfl, fun hk => ?_, fun hk => ?_⟩)))))))
        · refine dW_and1 (dT_cmp (dE_eq (dE_draw C hr hg (by omega) (i := 0) rfl (dE_int ⟨4, d3, m, u3, rfl, rfl, by omega, by omega, fun d4 u4 r4 h4 g4 => dE_int ⟨_, rfl, _, rfl, fun _ => ?_, fun _ => ?_⟩⟩))))
          · have hne : ns ≠ [] := fun e => by
              rw [e] at hk
              cases hk
            obtain ⟨pre, x, hx⟩ : ∃ pre x, ns = pre ++ [x] := ⟨ns.dropLast, ns.getLast hne, (List.dropLast_concat_getLast hne).symm⟩
            have hat : atI (ns.map D.str) (-1) = some (.str x) := by rw [hx, List.map_append]; exact atI_last _ _
            have nx := nm x (by rw [hx]; simp)
            have lx := isNm_len nx
            refine dSs_cons (dS_set (i := 6) hN (dE_sliceS (dE_ixO (i := 3) (w := .ref p0) (o := oL (ns.map .str)) (hi := rfl) (dE_neg (dE_int ⟨_, rfl, _, _, _, _, rfl, rfl, hat, dE_int ⟨_, rfl, _, rfl, by omega, ?_⟩⟩)))))
            refine dSs_nil ⟨cutS x none (some 7), d4, u4, rfl, ?_, by omega, by omega⟩
            rw [isNm_iff] at nx ⊢
            have := cut_cps x 7
            rw [show ((7 : Nat) : Int) = 7 from rfl] at this
            rw [this]
            have l1 := nx.lo
            have l2 := nx.hi
            exact ⟨by rw [List.length_take]; omega, by rw [List.length_take]; omega, fun c hc => nx.abc c (List.mem_of_mem_take hc)⟩
          · exact dSs_nil ⟨wd, d4, u4, rfl, nw, by omega, by omega⟩
        · exact sF (dSs_nil ⟨wd, d3, u3, rfl, nw, by omega, by omega⟩)
      clear nw hwd wd
      rintro Γ3 ⟨wd, d4, u4, rfl, nw, lo4, hi4⟩
      have lw := isNm_len nw
      have abcl := abc_len
      refine dSs_cons (dS_set (i := 7) hN (dE_new (dN_cat (dE_new (dN_lst (dA_one (dE_var (i := 6) rfl ⟨[.str wd], rfl, by simp, ?_⟩)))))))
      refine dE_new (dN_mp Nat [("letter", 9)] rfl hN (blk rfl) (sub rfl) (dI_str (dE_var (i := 2) rfl ⟨_, rfl, ?_⟩)))
      refine ⟨ABC, fun c => .str (sg c), fun c => .str (cutS wd none (some 7) ++ sg c), rfl, by omega, fun c mc s0 H0 C0 cl fp => ?_, ?_⟩
      · refine dG_name (i := 9) hN fun s0 H0 C0 cl fp => dE_addS (dE_sliceS (dE_var (i := 6) rfl (dE_int ⟨_, rfl, _, rfl, by omega, dE_var (i := 9) rfl ⟨_, _, rfl, rfl, ?_, rfl, rfl⟩⟩)))
        have e1 := cut_cps wd 7
        have e2 : (cutS wd none (some 7)).length ≤ 8 := by
          show (cutS wd none (some ((7 : Nat) : Int))).cps.size ≤ 8
          rw [← Array.length_toList, e1]
          simp
          omega
        rw [sizeLine_eq]
        show _ + 1 ≤ _
        omega
      refine ⟨_, _, rfl, rfl, by simp only [List.length_map, abcl, List.length_cons, List.length_nil]; omega, ?_⟩
      show dSs _ _ [.ow v (bagO d4 m u4), .im (.int n), .im (.str LET), .ow (.ref p0) (oL (ns.map .str)), .im it, .im (.int z), .im (.str wd), .im (.lst ([D.str wd] ++ ABC.map fun c => D.str (cutS wd none (some 7) ++ sg c))), .un, .un, e10] _
      refine dSs_cons (dS_set (i := 7) hN (dE_new (dN_cat (dE_var (i := 7) rfl ?_))))
      refine dE_new (dN_mp Nat [("letter", 9)] rfl hN (blk rfl) (sub rfl) (dI_str (dE_var (i := 2) rfl ⟨_, rfl, ?_⟩)))
      refine ⟨ABC, fun c => .str (sg c), fun c => .str (cutS wd none (some 6) ++ sg c ++ sg c), rfl, by omega, fun c mc s0 H0 C0 cl fp => ?_, ?_⟩
      · have e1 := cut_cps wd 6
        have e2 : (cutS wd none (some 6)).length ≤ 8 := by
          show (cutS wd none (some ((6 : Nat) : Int))).cps.size ≤ 8
          rw [← Array.length_toList, e1]
          simp
          omega
        refine dG_name (i := 9) hN fun s0 H0 C0 cl fp => dE_addS (dE_addS (dE_sliceS (dE_var (i := 6) rfl (dE_int ⟨_, rfl, _, rfl, by omega, dE_var (i := 9) rfl ⟨_, _, rfl, rfl, ?_, dE_var (i := 9) rfl ⟨_, _, rfl, rfl, ?_, rfl, rfl⟩⟩⟩))))
        · rw [sizeLine_eq]
          show _ + 1 ≤ _
          omega
        · rw [sizeLine_eq, Str.length_append]
          show _ + 1 + 1 ≤ _
          omega
      refine ⟨_, _, rfl, rfl, by simp only [List.length_append, List.length_map, abcl, List.length_cons, List.length_nil]; omega, ?_⟩
      have es : ([D.str wd] ++ ABC.map fun c => D.str (cutS wd none (some 7) ++ sg c)) ++ (ABC.map fun c => D.str (cutS wd none (some 6) ++ sg c ++ sg c)) = (someS wd).map D.str := by
        unfold someS
        simp only [List.map_append, List.map_map, List.map_cons, List.map_nil, Function.comp_def]
      rw [es]
      show dSs _ _ [.ow v (bagO d4 m u4), .im (.int n), .im (.str LET), .ow (.ref p0) (oL (ns.map .str)), .im it, .im (.int z), .im (.str wd), .im (.lst ((someS wd).map .str)), .un, .un, e10] _
      obtain ⟨x, r, ex, mx, nx⟩ := someS_new (ns := ns) (by omega) wd
      have sl := someS_len wd
      refine dSs_cons (dS_append (i := 3) (w := .ref p0) rfl (dE_ix (dE_new (dN_fl Str [("name", 10)] rfl hN (blk rfl) (sub rfl) (dI_list (dE_var (i := 7) rfl ⟨_, .inl rfl, ?_⟩))))))
      refine ⟨someS wd, .str, .str, fun s => !decide (s ∈ ns), rfl, by omega, fun o mo s0 H0 C0 cl fp => ?_, ?_⟩
      · refine dG_name (i := 10) hN fun s0 H0 C0 cl fp => dTs_one (dT_cmp (dE_notInO (i := 3) (dE_var (i := 10) rfl ⟨.ref p0, ns, o, rfl, rfl, _, rfl, rfl, fun _ s0 H0 C0 cl fp => dE_var (i := 10) rfl ⟨rfl, rfl⟩, fun _ => rfl⟩)))
      rw [ex]
      have h0 : atI (List.map D.str (x :: r)) 0 = some (.str x) := atI_nat (j := 0) rfl
      refine dE_int ⟨_, 0, .str x, rfl, rfl, h0, ns.map .str, rfl, by rw [List.length_map]; omega, ?_⟩
      refine dSs_nil ⟨ns ++ [x], d4, u4, .im it, .im (.int z), .im (.str wd), .im (.lst ((someS wd).map .str)), .un, .un, .un, ?_, by simp; omega, ?_, ?_, by omega, by omega⟩
      · rw [List.map_append]
        rfl
      · refine List.nodup_append.mpr ⟨nd, by simp, fun a ha b hb => ?_⟩
        rw [List.mem_singleton] at hb
        rw [hb]
        exact fun e => nx (e ▸ ha)
      · intro s ms
        rcases List.mem_append.mp ms with ms | ms
        · exact nm s ms
        · rw [List.mem_singleton] at ms
          rw [ms]
          exact someS_nm nw mx
  · rintro Γ ⟨ns, d0, u0, e4, e5, e6, e7, e8, e9, e10, rfl, hl, nd, nm, lo, hi⟩
    rw [upto_len] at hl hi
    refine dSs_cons (dS_ret (dE_varO (i := 3) rfl ⟨_, Outs.first rfl, ns, d0, u0, rfl, by show ns.length = n; omega, nd, nm, ⟨lo, ?_⟩, rfl⟩))
    show u0 ≤ t + 1000
    omega
end
/-! ### _law_some_halls -/
theorem Good.perm {t t' : Tr} (p : t.Perm t') (g : Good t) : Good t' := by
  have hl := p.length_eq
  refine ⟨by rw [← hl]; exact g.len, (p.map _).nodup_iff.mp g.nd, fun q m => g.nm q (p.mem_iff.mpr m), ?_, ?_⟩
  · rw [← (p.filter _).length_eq]; exact g.one
  · obtain ⟨r, hr⟩ := g.rk
    refine ⟨r, fun q m => ?_⟩
    obtain ⟨h1, h2⟩ := hr q (p.mem_iff.mpr m)
    exact ⟨by rw [← hl]; exact h1, fun u e => ⟨(p.map _).mem_iff.mp (h2 u e).1, (h2 u e).2⟩⟩
structure PS (ns : List Str) (ps : Tr) : Prop where
  ky : ps.map (·.1) = ns.take ps.length
  le : ps.length ≤ ns.length
  up : ∀ i q, ps[i]? = some q → (q.2 = none ∧ i = 0) ∨ (∃ j s, j < i ∧ ns[j]? = some s ∧ q.2 = some s)
theorem PS.good {ns : List Str} {ps : Tr} (h : PS ns ps) (hl : ps.length = ns.length) (l1 : 1 ≤ ns.length) (l2 : ns.length ≤ 40) (nd : ns.Nodup) (nm : ∀ s ∈ ns, isNm (.str s) = true) : Good ps := by
  have ek : ps.map (·.1) = ns := by rw [h.ky, hl, List.take_length]
  have at_ : ∀ {i : Nat} {q : Str × Option Str}, ps[i]? = some q → ns[i]? = some q.1 := fun {i q} e => by
    rw [← ek, List.getElem?_map, e]; rfl
  have ix : ∀ {i : Nat} {s : Str}, ns[i]? = some s → ns.idxOf s = i := fun {i s} e => by
    obtain ⟨hi, rfl⟩ := List.getElem?_eq_some_iff.mp e
    exact nd.idxOf_getElem i hi
  refine ⟨by omega, by show (ps.map (·.1)).Nodup; rw [ek]; exact nd, fun q m => nm _ (by rw [← ek]; exact List.mem_map.mpr ⟨q, m, rfl⟩), ?_, ns.idxOf, fun q m => ?_⟩
  · match hp : ps with
    | [] => rw [hp] at hl; simp at hl; omega
    | q :: rest =>
      have e0 : q.2 = none := by
        rcases h.up 0 q (by rw [hp]; rfl) with z | ⟨j, s, lt, _⟩
        · exact z.1
        · omega
      have e1 : rest.filter (·.2.isNone) = [] := List.filter_eq_nil_iff.mpr fun x mx => by
        obtain ⟨i, hi⟩ := List.getElem?_of_mem mx
        rcases h.up (i + 1) x (by rw [hp]; exact hi) with z | ⟨j, s, _, _, e⟩
        · omega
        · rw [e]; simp
      rw [List.filter_cons, e1]
      simp [e0]
  · obtain ⟨i, hi⟩ := List.getElem?_of_mem m
    have e := at_ hi
    have hx := ix e
    have li := (List.getElem?_eq_some_iff.mp e).1
    refine ⟨by show ns.idxOf q.1 < ps.length; rw [hx, hl]; exact li, fun u eu => ?_⟩
    rcases h.up i q hi with z | ⟨j, s, lt, ej, e2⟩
    · rw [z.1] at eu; cases eu
    · rw [eu] at e2
      cases e2
      refine ⟨?_, by show ns.idxOf u < ns.idxOf q.1; rw [hx, ix ej]; exact lt⟩
      show u ∈ ps.map (·.1)
      rw [ek]
      exact List.mem_of_getElem? ej
theorem PS.start {ns : List Str} {s : Str} (h : ns[0]? = some s) : PS ns [(s, none)] := by
  have hl := (List.getElem?_eq_some_iff.mp h).1
  refine ⟨?_, by simp; omega, fun i q e => ?_⟩
  · match ns, h with
    | a :: r, h => cases h; rfl
  · cases i with
    | zero => cases e; exact .inl ⟨rfl, rfl⟩
    | succ i => simp at e
theorem PS.more {ns : List Str} {ps : Tr} {a s : Str} {j : Nat} (h : PS ns ps) (ea : ns[ps.length]? = some a) (ej : ns[j]? = some s) (lt : j < ps.length) : PS ns (ps ++ [(a, some s)]) := by
  have hl := (List.getElem?_eq_some_iff.mp ea).1
  refine ⟨?_, by simp; omega, fun i q e => ?_⟩
  · rw [List.map_append, h.ky, List.length_append, List.length_singleton, List.take_add_one, ea]
    rfl
  · by_cases hi : i < ps.length
    · rw [List.getElem?_append_left hi] at e
      exact h.up i q e
    · rw [List.getElem?_append_right (by omega)] at e
      have : i - ps.length = 0 := by
        cases hz : i - ps.length with
        | zero => rfl
        | succ n => rw [hz] at e; simp at e
      rw [this] at e
      cases e
      exact .inr ⟨j, s, by omega, ej, rfl⟩
def pD (q : Str × Option Str) : D := .tup [.str q.1, uD q.2]
theorem pD_pair (t : Tr) : (tK t).map Nd.pairD = t.map pD := by
  unfold tK
  rw [List.map_map]
  rfl
theorem tK_nd {t : Tr} (h : (keys t).Nodup) : ((tK t).map (·.1)).Nodup := by
  have : (tK t).map (·.1) = (keys t).map (Sum.inr : Str → Key) := by simp [tK]
  rw [this]
  exact nodup_map (fun a b e => Sum.inr.inj e) h
theorem cut_from {α : Type} {g : α → D} {xs : List α} {n : Nat} (h : n ≤ xs.length) : Nd.cutD (xs.map g) (some (n : Int)) none = (xs.drop n).map g := by
  unfold Nd.cutD
  rw [HT.sIx_none, HT.sIx_nat, List.length_map, Nat.min_eq_left h, List.map_drop, List.take_of_length_le]
  simp
theorem cut_upto {α : Type} {g : α → D} {xs : List α} {n : Nat} (h : n ≤ xs.length) : Nd.cutD (xs.map g) none (some (n : Int)) = (xs.take n).map g := by
  unfold Nd.cutD
  rw [HT.sIx_none, HT.sIx_nat, List.length_map, Nat.min_eq_left h, List.drop_zero, Nat.sub_zero, List.map_take]
structure HlA where
  v : V
  d : Int
  m : Int
  t : Int
  most : Int
structure HlA.Ok (x : HlA) : Prop where
  t0 : 0 ≤ x.t
  t1 : x.t ≤ 800000
  n0 : 6 ≤ x.most
  n1 : x.most ≤ 40
abbrev cSome : Ctr where
  α := HlA
  ins := fun x => [.ow x.v (bagO x.d x.m x.t), .im (.int x.most)]
  ok := HlA.Ok
  post := fun x r o => ∃ (tr : Tr) (d' t' : Int), r = tD tr ∧ Good tr ∧ (0 ≤ t' ∧ t' ≤ x.t + 2000) ∧ o = [.ow x.v (bagO d' x.m t'), .un]
theorem many_at {r s b j : Int} (hr : 0 ≤ r ∧ r < b) (hs : 0 ≤ s ∧ s < 6) (hb : 6 ≤ b ∧ b ≤ 40) (hj : 0 ≤ j ∧ j < 3) : ∃ z : Nat, atI [D.int (1 + r), .int b, .int (1 + s)] j = some (.int z) ∧ 1 ≤ z ∧ z ≤ 40 := by
  have : j = 0 ∨ j = 1 ∨ j = 2 := by omega
  rcases this with rfl | rfl | rfl
  · exact ⟨(1 + r).toNat, by rw [Int.toNat_of_nonneg (by omega)]; exact atI_nat (j := 0) rfl, by omega, by omega⟩
  · exact ⟨b.toNat, by rw [Int.toNat_of_nonneg (by omega)]; exact atI_nat (j := 1) rfl, by omega, by omega⟩
  · exact ⟨(1 + s).toNat, by rw [Int.toNat_of_nonneg (by omega)]; exact atI_nat (j := 2) rfl, by omega, by omega⟩
theorem upper_at {k : Nat} {r s j : Int} (hk : 1 ≤ k) (hr : 0 ≤ r ∧ r < k) (hs : 0 ≤ s ∧ s < 3) (hj : 0 ≤ j ∧ j < 5) :
    ∃ z : Nat, atI [D.int ((k : Int) - 1), .int 0, .int (((k : Int) - 1) / 2), .int r, .int (if (k : Int) - 1 - s > 0 then (k : Int) - 1 - s else 0)] j = some (.int z) ∧ z < k := by
  have : j = 0 ∨ j = 1 ∨ j = 2 ∨ j = 3 ∨ j = 4 := by omega
  rcases this with rfl | rfl | rfl | rfl | rfl
  · exact ⟨((k : Int) - 1).toNat, by rw [Int.toNat_of_nonneg (by omega)]; exact atI_nat (j := 0) rfl, by omega⟩
  · exact ⟨0, atI_nat (j := 1) rfl, by omega⟩
  · exact ⟨(((k : Int) - 1) / 2).toNat, by rw [Int.toNat_of_nonneg (by omega)]; exact atI_nat (j := 2) rfl, by omega⟩
  · exact ⟨r.toNat, by rw [Int.toNat_of_nonneg (by omega)]; exact atI_nat (j := 3) rfl, by omega⟩
  · refine ⟨(if (k : Int) - 1 - s > 0 then (k : Int) - 1 - s else 0).toNat, ?_, by split <;> omega⟩
    rw [Int.toNat_of_nonneg (by split <;> omega)]; exact atI_nat (j := 4) rfl
section
variable {P : Program} {w : World} {K : PySem.W.Frag} {mg : Str → Option Value} {base : Heap} {f : Addr} {fd : FuncData}
theorem ok_some_halls (T : Gs mg) (C : Fd P w K mg base "_law_draw" 1 ["bag", "many"] cDraw) (C2 : Fd P w K mg base "_law_unlike_names" 2 ["bag", "many"] cNames) (F : Fun K "_law_some_halls" "_law_some_halls" s_law_some_halls f fd) :
    FnG P w K mg base CX0 3 f fd ["bag", "most"] (spD K cSome) := by
  refine fnD (k := 2) F sc_law_some_halls (fun _ => rfl) ?_
  rintro cdv A out s H E hr hg ⟨v, d, m, t, b⟩ ⟨t0, t1, n0, n1⟩
  replace t0 : 0 ≤ t := t0
  replace t1 : t ≤ 800000 := t1
  replace n0 : 6 ≤ b := n0
  replace n1 : b ≤ 40 := n1
  show dSs _ _ [.ow v (bagO d m t), .im (.int b), .un, .un, .un, .un, .un, .un, .un] _
  have hN := sc_law_some_halls.nd
  refine dSs_cons (dS_set (i := 2) hN (dE_ix (dE_new (dN_lst (dA_cons (dE_add (dE_int (dE_draw C hr hg (by omega) (i := 0) rfl (dE_var (i := 1) rfl ⟨b, d, m, t, rfl, rfl, by omega, by omega, fun d1 u1 r1 h1 g1 => ⟨_, _, rfl, rfl, ?_⟩⟩)))))))))
  refine dA_cons (dE_var (i := 1) rfl (dA_one (dE_add (dE_int (dE_draw C hr hg (by omega) (i := 0) rfl (dE_int ⟨6, d1, m, u1, rfl, rfl, by omega, by omega, fun d2 u2 r2 h2 g2 => ⟨_, _, rfl, rfl, [.int (1 + r1), .int b, .int (1 + r2)], rfl, by simp, ?_⟩⟩))))))
  refine dE_draw C hr hg (by omega) (i := 0) rfl (dE_int ⟨3, d2, m, u2, rfl, rfl, by omega, by omega, fun d3 u3 r3 h3 g3 => ?_⟩)
  obtain ⟨n, en, hn1, hn2⟩ := many_at h1 h2 ⟨n0, n1⟩ h3
  refine ⟨_, r3, .int n, rfl, rfl, en, ?_⟩
  show dSs _ _ [.ow v (bagO d3 m u3), .im (.int b), .im (.int n), .un, .un, .un, .un, .un, .un] _
  refine dSs_cons (dS_set (i := 3) hN (dE_draw C hr hg (by omega) (i := 0) rfl (dE_int ⟨5, d3, m, u3, rfl, rfl, by omega, by omega, fun d4 u4 sh h4 g4 => ?_⟩)))
  refine dSs_cons (dS_set (i := 4) hN (dE_draw C hr hg (by omega) (i := 0) rfl (dE_var (i := 2) rfl ⟨n, d4, m, u4, rfl, rfl, by omega, by omega, fun d5 u5 tb h5 g5 => ?_⟩)))
  show dSs _ _ [.ow v (bagO d5 m u5), .im (.int b), .im (.int n), .im (.int sh), .im (.int tb), .un, .un, .un, .un] _
  refine dSs_cons (dS_set (i := 5) hN (dE_fnO C2 hr hg (by omega) (dA_own (i := 0) rfl (dA_one (dE_var (i := 2) rfl ⟨0, [.int n], ⟨v, d5, m, u5, n⟩, v, _, rfl, rfl, rfl, ⟨g5.1, ?_, hn1, hn2⟩, ?_⟩)))))
  · show u5 ≤ 900000
    omega
  rintro r o ⟨ns, d6, u6, rfl, nl, nd, nm, g6, rfl⟩
  replace nl : ns.length = n := nl
  replace g6 : 0 ≤ u6 ∧ u6 ≤ u5 + 1000 := g6
  refine ⟨_, _, rfl, ?_⟩
  show dSs _ _ [.ow v (bagO d6 m u6), .im (.int b), .im (.int n), .im (.int sh), .im (.int tb), .im (.lst (ns.map .str)), .un, .un, .un] _
  have at_ : ∀ {j : Nat}, j < n → ∃ s, ns[j]? = some s ∧ atI (ns.map D.str) (j : Int) = some (.str s) := fun {j} hj =>
    ⟨ns[j], List.getElem?_eq_getElem (by omega), atI_nat (by rw [List.getElem?_map, List.getElem?_eq_getElem (by omega)]; rfl)⟩
  obtain ⟨s0, e0, a0⟩ := at_ (j := 0) (by omega)
  refine dSs_cons (dS_setO (i := 6) hN (dN_lst (dA_one (dE_tup (dA_cons (dE_ix (dE_var (i := 5) rfl (dE_int ⟨_, 0, .str s0, rfl, rfl, a0, dA_one (dE_non ⟨[.str s0, .non], rfl, by simp, [.tup [.str s0, .non]], rfl, by simp, fun p0 => ?_⟩)⟩))))))))
  show dSs _ _ [.ow v (bagO d6 m u6), .im (.int b), .im (.int n), .im (.int sh), .im (.int tb), .im (.lst (ns.map .str)), .ow (.ref p0) (oL ([(s0, none)].map pD)), .un, .un] _
  refine dSs_cons (dS_for PassesOwn.never rfl (dI_range2 T.range (dA_cons (dE_int (dA_one (dE_var (i := 2) rfl ⟨1, n, rfl, by omega, ?_⟩))))))
  refine ⟨fun k Γ => ∃ (ps : Tr) (d' t' : Int) (e7 e8 : Sl), Γ = [.ow v (bagO d' m t'), .im (.int b), .im (.int n), .im (.int sh), .im (.int tb), .im (.lst (ns.map .str)), .ow (.ref p0) (oL (ps.map pD)), e7, e8] ∧ ps.length = k + 1 ∧ PS ns ps ∧ (0 ≤ t' ∧ t' ≤ u6 + 2 * k),
    ⟨[(s0, none)], d6, u6, _, _, rfl, rfl, PS.start e0, by omega, by omega⟩, ?_, ?_⟩
  · rintro k it Γ hit ⟨ps, d0, u0, e7, e8, rfl, pl, hps, lo, hi⟩
    have hk : k + 1 < n := by
      have := (List.getElem?_eq_some_iff.mp hit).1
      rw [upto_len] at this
      omega
    have eit : it = .int ((k + 1 : Nat) : Int) := by
      rw [upto_get (by omega)] at hit
      cases hit
      congr 1
      omega
    subst eit
    refine dG_name (i := 7) hN ?_
    show dSs _ _ [.ow v (bagO d0 m u0), .im (.int b), .im (.int n), .im (.int sh), .im (.int tb), .im (.lst (ns.map .str)), .ow (.ref p0) (oL (ps.map pD)), .im (.int ((k + 1 : Nat) : Int)), e8] _
    refine dSs_cons (dS_set (i := 8) hN (dE_ix (dE_new (dN_lst (dA_cons (dE_sub (dE_var (i := 7) rfl (dE_int ⟨_, _, rfl, rfl, ?_⟩))))))))
    refine dA_cons (dE_int (dA_cons (dE_fdiv (dE_sub (dE_var (i := 7) rfl (dE_int ⟨_, _, rfl, rfl, ?_⟩))))))
    refine dE_int ⟨_, _, rfl, rfl, wide_div (b := 64) (by omega) (by omega) (by omega) (by omega), ?_⟩
    refine dA_cons (dE_draw C hr hg (by omega) (i := 0) rfl (dE_var (i := 7) rfl ⟨_, d0, m, u0, rfl, rfl, by omega, by omega, fun d1 u1 r1 h1 g1 => ?_⟩))
    refine dA_one (dE_max2 rfl T.max (dA_cons (dE_int (dA_one (dE_sub (dE_sub (dE_var (i := 7) rfl (dE_int ⟨_, _, rfl, rfl, ?_⟩))))))))
    refine dE_draw C hr hg (by omega) (i := 0) rfl (dE_int ⟨3, d1, m, u1, rfl, rfl, by omega, by omega, fun d2 u2 r2 h2 g2 => ⟨_, _, rfl, rfl, _, _, rfl, ?_⟩⟩)
    refine ⟨[_, _, _, _, _], rfl, by simp, dE_var (i := 3) rfl ?_⟩
    obtain ⟨z, ez, hz⟩ := upper_at (k := k + 1) (by omega) h1 h2 h4
    refine ⟨_, sh, .int z, rfl, rfl, ez, ?_⟩
    show dSs _ _ [.ow v (bagO d2 m u2), .im (.int b), .im (.int n), .im (.int sh), .im (.int tb), .im (.lst (ns.map .str)), .ow (.ref p0) (oL (ps.map pD)), .im (.int ((k + 1 : Nat) : Int)), .im (.int z)] _
    obtain ⟨sa, ea, aa⟩ := at_ (j := k + 1) (by omega)
    obtain ⟨sb, eb, ab⟩ := at_ (j := z) (by omega)
    refine dSs_cons (dS_append (i := 6) (w := .ref p0) rfl (dE_tup (dA_cons (dE_ix (dE_var (i := 5) rfl (dE_var (i := 7) rfl ⟨_, _, .str sa, rfl, rfl, aa, ?_⟩))))))
    refine dA_one (dE_ix (dE_var (i := 5) rfl (dE_var (i := 8) rfl ⟨_, _, .str sb, rfl, rfl, ab, [.str sa, .str sb], rfl, by simp, ps.map pD, rfl, by rw [List.length_map]; omega, ?_⟩)))
    refine dSs_nil ⟨ps ++ [(sa, some sb)], d2, u2, _, _, by rw [List.map_append]; rfl, by simp; omega, hps.more (by rw [pl]; exact ea) eb (by omega), by omega, by omega⟩
  · rintro Γ ⟨ps, d0, u0, e7, e8, rfl, pl, hps, lo, hi⟩
    rw [upto_len] at pl hi
    have pl : ps.length = n := by omega
    obtain ⟨q, rfl⟩ : ∃ q : Nat, tb = (q : Int) := ⟨tb.toNat, by omega⟩
    have gp := hps.good (by omega) (by omega) (by omega) nd nm
    have pm : ps.Perm (ps.drop q ++ ps.take q) := by
      have h1 := (List.perm_append_comm (l₁ := ps.take q) (l₂ := ps.drop q))
      rw [List.take_append_drop] at h1
      exact h1
    have g := gp.perm pm
    refine dSs_cons (dS_ret (dE_dict rfl T.dict (dE_new (dN_cat (dE_new (dN_slice (dE_varO (i := 6) rfl (dE_var (i := 4) rfl ⟨_, rfl, _, .inl rfl, ?_⟩))))))))
    rw [cut_from (by omega)]
    refine dE_new (dN_slice (dE_var (i := 6) rfl (dE_var (i := 4) rfl ⟨_, rfl, _, .inl rfl, ?_⟩)))
    rw [cut_upto (by omega)]
    refine ⟨_, _, rfl, rfl, by simp; omega, tK (ps.drop q ++ ps.take q), by rw [pD_pair, List.map_append], tK_nd g.nd, _, Outs.first rfl, _, d0, u0, rfl, g, ⟨lo, ?_⟩, rfl⟩
    show u0 ≤ t + 2000
    omega
end
section
variable {P : Program} {w : World} {K : PySem.W.Frag} {mg : Str → Option Value} {base : Heap} {f : Addr} {fd : FuncData}
/-! ### the law's own helpers -/
theorem ok_way_to_root (T : Gs mg) (F : Fun K "_law_way_to_root" "_law_way_to_root" s_law_way_to_root f fd) : FnG P w K mg base CX0 1 f fd ["tree", "spot"] (spD K cWays) := by
  refine fnD (k := 0) F sc_law_way_to_root (fun _ => rfl) ?_
  rintro cdv A out s H E hr hg ⟨t, a⟩ ⟨gd, ha⟩
  replace gd : Good t := gd
  replace ha : a ∈ keys t := ha
  show dSs _ _ [.im (tD t), .im (.str a), .un, .un] _
  have hlen := gd.len
  have hN := sc_law_way_to_root.nd
  have tl := tK_len t
  obtain ⟨w0, l0⟩ := way_ok gd ha
  refine dSs_cons (dS_setO (i := 2) hN (dN_lst (dA_one (dE_var (i := 1) rfl ⟨[.str a], rfl, by simp, fun p0 => ?_⟩))))
  show dSs _ _ [.im (tD t), .im (.str a), .ow (.ref p0) (oL [.str a]), .un] _
  refine dSs_cons (dS_for PassesOwn.never rfl (dI_range1 T.range (dA_one (dE_len T.len (dE_var (i := 0) rfl ⟨_, rfl, by omega, _, rfl, by omega, by omega, ?_⟩)))))
  refine ⟨fun k Γ => ∃ pre s l e3, Γ = [.im (tD t), .im (.str a), .ow (.ref p0) (oL ((pre ++ [s]).map .str)), e3] ∧ Way t s l ∧ way t a = pre ++ l ∧ (l.length ≤ 1 ∨ l.length + k ≤ t.length), ⟨[], a, _, _, rfl, w0, rfl, .inr (by omega)⟩, ?_, ?_⟩
  · rintro k it Γ hit ⟨pre, s, l, e3, rfl, wl, el, hk⟩
    have hat : atI ((pre ++ [s]).map D.str) (-1) = some (.str s) := by
      rw [List.map_append]
      exact atI_last _ _
    have hpl : pre.length < 40 := by
      have := congrArg List.length el
      rw [List.length_append] at this
      obtain ⟨r, hr⟩ := wl.hd
      rw [hr, List.length_cons] at this
      omega
    refine dG_name (i := 3) hN ?_
    show dSs _ _ [.im (tD t), .im (.str a), .ow (.ref p0) (oL ((pre ++ [s]).map .str)), .im it] _
    refine dSs_cons (dS_if (dT_cmp (dE_notN (dE_ixD (hu_of hr) (dE_var (i := 0) rfl (dE_ixO (i := 2) (w := .ref p0) (o := oL ((pre ++ [s]).map .str)) (hi := rfl) (dE_neg (dE_int ⟨_, rfl, _, _, _, _, rfl, rfl, hat, ?_⟩))))))))
    cases wl with
    | top e =>
      refine ⟨_, .inr s, .non, rfl, rfl, by rw [look_tK, e]; rfl, _, rfl, sF (dSs_nil (dSs_nil ⟨pre, s, [s], _, rfl, .top e, el, .inl (by simp)⟩))⟩
    | @step _ u l e k' =>
      have hl : look (tK t) (.inr s) = some (.str u) := by rw [look_tK, e]; rfl
      refine ⟨_, .inr s, .str u, rfl, rfl, hl, _, rfl, sT ?_⟩
      refine dSs_cons (dS_append (i := 2) (w := .ref p0) rfl (dE_ixD (hu_of hr) (dE_var (i := 0) rfl (dE_ixO (i := 2) (w := .ref p0) (o := oL ((pre ++ [s]).map .str)) (hi := rfl) (dE_neg (dE_int ⟨_, rfl, _, _, _, _, rfl, rfl, hat, ?_⟩))))))
      refine ⟨_, .inr s, .str u, rfl, rfl, hl, _, rfl, by simp; omega, dSs_nil (dSs_nil ⟨pre ++ [s], u, l, .im it, ?_, k', by rw [el]; simp, ?_⟩)⟩
      · show [_, _, _, _] = _
        simp [oL]
      · rcases hk with z | z
        · left
          simp only [List.length_cons] at z
          omega
        · right
          simp only [List.length_cons] at z
          omega
  · rintro Γ ⟨pre, s, l, e3, rfl, wl, el, hk⟩
    rw [upto_len] at hk
    have : l = [s] := by
      obtain ⟨r, rfl⟩ := wl.hd
      have : r.length = 0 := by
        simp only [List.length_cons] at hk
        omega
      rw [List.length_eq_zero_iff.mp this]
    subst this
    refine dSs_cons (dS_ret (dE_varO (i := 2) rfl ⟨_, Outs.none, ?_⟩))
    show D.lst _ = .lst _
    rw [el]
abbrev cRight : Ctr := cTS fun _ _ => .bl true
theorem key_ok {t : Tr} {s : Str} (g : Good t) (m : s ∈ keys t) : okS s = true ∧ s.length ≤ 100 := by
  have n := g.nmK m
  have l := isNm_len n
  exact ⟨nm_okS n, by omega⟩
theorem way_keys {t : Tr} {s x : Str} (g : Good t) (m : s ∈ keys t) (h : x ∈ way t s) : x ∈ keys t := by
  obtain ⟨v, e⟩ := (way_ok g m).1.key h
  exact List.mem_map.mpr ⟨_, mem_of_up e, rfl⟩
theorem way_shows {t : Tr} {s : Str} (g : Good t) (m : s ∈ keys t) : Shows (.lst [.tup ((way t s).map D.str), .tup ((way t s).map D.str)]) := by
  have l := (way_ok g m).2
  have l2 := g.len
  exact shows_tups (fun x hx => key_ok g (way_keys g m hx)) (fun x hx => key_ok g (way_keys g m hx)) (by omega) (by omega)
theorem under_shows {t : Tr} {s : Str} {ys : List Str} (g : Good t) (p : ys.Perm (under t s)) : Shows (.lst [.tup (ys.map D.str), .tup (ys.map D.str)]) := by
  have l2 := g.len
  have l : ys.length ≤ 40 := by
    rw [p.length_eq]
    have := List.length_filter_le (fun o => decide (s ∈ way t o)) (keys t)
    have hk := keys_len t
    unfold under
    omega
  have k : ∀ x ∈ ys, okS x = true ∧ x.length ≤ 100 := fun x hx => key_ok g (List.mem_filter.mp (p.mem_iff.mp hx)).1
  exact shows_tups k k (by omega) (by omega)
theorem ok_ways_right (T : Gs mg) (C0 : Fd P w K mg base "_law_way_to_root" 1 ["tree", "spot"] cWays) (C1 : Fd P w K mg base "way_up" 4 ["halls", "hall"] cWayUp) (C2 : Fk P w K mg base "way_up" 4 ["halls", "hall"] ["hall", "halls"] [1, 0] cWayUp)
    (C3 : Fd P w K mg base "below" 4 ["halls", "hall"] cBelow) (C4 : Fk P w K mg base "below" 4 ["halls", "hall"] ["hall", "halls"] [1, 0] cBelow) (F : Fun K "_law_ways_right" "_law_ways_right" s_law_ways_right f fd) :
    FnG P w K mg base CX0 5 f fd ["tree", "spot"] (spD K cRight) := by
  refine fnD (k := 4) F sc_law_ways_right (fun _ => rfl) ?_
  rintro cdv A out s H E hr hg ⟨t, a⟩ ⟨gd, ha⟩
  replace gd : Good t := gd
  replace ha : a ∈ keys t := ha
  show dSs _ _ [.im (tD t), .im (.str a), .un, .un, .un] _
  have hN := sc_law_ways_right.nd
  have hlen := gd.len
  have hkl := keys_len t
  refine dSs_cons (dS_set (i := 2) hN (dE_tuple T.tuple (dE_fn C0 hr hg (by omega) (dA_cons (dE_var (i := 0) rfl (dA_one (dE_var (i := 1) rfl ⟨[tD t, .str a], (t, a), rfl, rfl, ⟨gd, ha⟩, fun r o hr' => ⟨_, hr', ?_⟩⟩)))))))
  show dSs _ _ [.im (tD t), .im (.str a), .im (.tup ((way t a).map .str)), .un, .un] _
  refine dSs_cons (dS_set (i := 3) hN (dE_tuple T.tuple (dE_new (dN_sortedS T.sorted (dE_lock (i := 0) rfl rfl ?_)))))
  refine dE_new (dN_fl Str [("name", 4)] rfl hN (blk rfl) (sub rfl) (dI_keys (i := 0) rfl ?_))
  refine ⟨keys t, .str, .str, fun o => decide (a ∈ way t o), keys_kD t, by omega, fun o mo s0 H0 C cl fp => ?_, rfl, rfl, ?_⟩
  · refine dG_name (i := 4) hN fun s0 H0 C cl fp => dTs_one (dT_cmp (dE_inS (dE_var (i := 1) rfl ?_)))
    refine dE_fn C0 hr hg (by omega) (dA_cons (dE_varF (i := 0) rfl (dA_one (dE_var (i := 4) rfl ⟨[tD t, .str o], (t, o), rfl, rfl, ⟨gd, mo⟩, fun r o hr' => ?_⟩))))
    cases hr'
    refine ⟨_, _, rfl, rfl, _, rfl, rfl, fun _ s0 H0 C cl fp => dE_var (i := 4) rfl ⟨rfl, rfl⟩, fun _ => rfl⟩
  refine ⟨_, rfl, ?_, fun ys hp hs => ⟨_, rfl, ?_⟩⟩
  · have := List.length_filter_le (fun o => decide (a ∈ way t o)) (keys t)
    omega
  replace hp : ys.Perm (under t a) := hp
  show dSs _ _ [.im (tD t), .im (.str a), .im (.tup ((way t a).map .str)), .im (.tup (ys.map .str)), .un] _
  have sw := way_shows gd ha
  have su := under_shows gd hp
  refine dSs_cons (dS_if (dT_cmp (dE_ne (dE_repr hr hg T.repr (dE_new (dN_lst (dA_cons (dE_fn C1 hr hg (by omega) (dA_cons (dE_var (i := 0) rfl (dA_one (dE_var (i := 1) rfl ⟨[tD t, .str a], (t, a), rfl, rfl, ⟨gd, ha⟩, fun r1 o1 h1 => ?_⟩))))))))))))
  refine dA_one (dE_fnK C2 hr hg (by omega) (dK_cons (dE_var (i := 1) rfl (dK_cons (dE_var (i := 0) rfl (dK_nil ⟨rfl, (t, a), rfl, ⟨gd, ha⟩, fun r2 o2 h2 => ?_⟩))))))
  replace h1 : r1 = .tup ((way t a).map .str) := h1
  replace h2 : r2 = .tup ((way t a).map .str) := h2
  subst h1 h2
  refine ⟨[_, _], rfl, by simp, sw, ?_⟩
  refine dE_repr hr hg T.repr (dE_new (dN_lst (dA_cons (dE_var (i := 2) rfl (dA_one (dE_var (i := 2) rfl ⟨[_, _], rfl, by simp, sw, _, rfl, _, rfl, ?_⟩))))))
  rw [decide_eq_true rfl]
  refine sF (dSs_nil ?_)
  refine dSs_cons (dS_ret (dE_eq (dE_repr hr hg T.repr (dE_new (dN_lst (dA_cons (dE_fn C3 hr hg (by omega) (dA_cons (dE_var (i := 0) rfl (dA_one (dE_var (i := 1) rfl ⟨[tD t, .str a], (t, a), rfl, rfl, ⟨gd, ha⟩, fun r1 o1 h1 => ?_⟩)))))))))))
  refine dA_one (dE_fnK C4 hr hg (by omega) (dK_cons (dE_var (i := 1) rfl (dK_cons (dE_var (i := 0) rfl (dK_nil ⟨rfl, (t, a), rfl, ⟨gd, ha⟩, fun r2 o2 h2 => ?_⟩))))))
  obtain ⟨y1, p1, s1, rfl⟩ := h1
  obtain ⟨y2, p2, s2, rfl⟩ := h2
  cases sorted_one (p1.trans hp.symm) s1 hs
  cases sorted_one (p2.trans hp.symm) s2 hs
  refine ⟨[_, _], rfl, by simp, su, ?_⟩
  refine dE_repr hr hg T.repr (dE_new (dN_lst (dA_cons (dE_var (i := 3) rfl (dA_one (dE_var (i := 3) rfl ⟨[_, _], rfl, by simp, su, _, rfl, _, Outs.none, ?_⟩))))))
  show D.bl _ = .bl true
  rw [decide_eq_true rfl]
end
section
variable {P : Program} {w : World} {K : PySem.W.Frag} {mg : Str → Option Value} {base : Heap} {f : Addr} {fd : FuncData}
abbrev cBetR : Ctr where
  α := BtwA
  ins := fun y => [.im (tD y.t), .im (.str y.a), .im (.str y.b)]
  ok := BtwA.Ok
  post := fun y r _ => r = .bl true
theorem due_keys {y : BtwA} (h : y.Ok) : ∀ x ∈ y.due, x ∈ keys y.t := by
  intro x hx
  have h1 := h.m.ha
  have h2 := h.m.hb
  unfold BtwA.due at hx
  rcases List.mem_append.mp hx with hx | hx
  · refine way_keys h.g h.ma ?_
    rw [h1]
    rcases List.mem_append.mp hx with hx | hx
    · exact List.mem_append_left _ hx
    · rw [List.mem_singleton] at hx; rw [hx]; simp
  · refine way_keys h.g h.mb ?_
    rw [h2]
    exact List.mem_append_left _ (List.mem_reverse.mp hx)
theorem due_len {y : BtwA} (h : y.Ok) : y.due.length ≤ 80 := by
  have h1 := h.m.lenA
  have h2 := h.m.lenB
  have h3 := (way_ok h.g h.ma).2
  have h4 := (way_ok h.g h.mb).2
  have h5 := h.g.len
  unfold BtwA.due
  simp only [List.length_append, List.length_reverse, List.length_singleton]
  omega
theorem ok_between_right (T : Gs mg) (C0 : Fd P w K mg base "_law_way_to_root" 1 ["tree", "spot"] cWays) (C1 : Fd P w K mg base "between" 4 ["halls", "one", "other"] cBetw) (C2 : Fk P w K mg base "between" 4 ["halls", "one", "other"] ["other", "halls", "one"] [1, 2, 0] cBetw)
    (F : Fun K "_law_between_right" "_law_between_right" s_law_between_right f fd) : FnG P w K mg base CX0 5 f fd ["tree", "here", "there"] (spD K cBetR) := by
  refine fnD (k := 4) F sc_law_between_right (fun _ => rfl) ?_
  rintro cdv A out s H E hr hg ⟨t, a, b, q, p, x, l⟩ okY
  have ok2 : BtwA.Ok ⟨t, b, a, p, q, x, l⟩ := ⟨okY.g, okY.mb, okY.ma, okY.m.symm⟩
  obtain ⟨gd, ha, hb, m⟩ := okY
  replace gd : Good t := gd
  replace ha : a ∈ keys t := ha
  replace hb : b ∈ keys t := hb
  replace m : Meet (way t a) (way t b) q p x l := m
  have ok1 : BtwA.Ok ⟨t, a, b, q, p, x, l⟩ := ⟨gd, ha, hb, m⟩
  show dSs _ _ [.im (tD t), .im (.str a), .im (.str b), .un, .un, .un, .un, .un] _
  have hN := sc_law_between_right.nd
  have hlen := gd.len
  have la := (way_ok gd ha).2
  have lb := (way_ok gd hb).2
  have lA := m.lenA
  have lB := m.lenB
  refine dSs_cons (dS_asg (dE_tup (dA_cons (dE_fn C0 hr hg (by omega) (dA_cons (dE_var (i := 0) rfl (dA_one (dE_var (i := 1) rfl ⟨[tD t, .str a], (t, a), rfl, rfl, ⟨gd, ha⟩, fun r1 o1 hr1 => ?_⟩))))))))
  refine dA_one (dE_fn C0 hr hg (by omega) (dA_cons (dE_var (i := 0) rfl (dA_one (dE_var (i := 2) rfl ⟨[tD t, .str b], (t, b), rfl, rfl, ⟨gd, hb⟩, fun r2 o2 hr2 => ⟨[r1, r2], rfl, by simp, ?_⟩⟩)))))
  replace hr1 : r1 = .lst ((way t a).map .str) := hr1
  replace hr2 : r2 = .lst ((way t b).map .str) := hr2
  subst hr1 hr2
  refine dG_tup rfl (dGs_cons (dG_name (i := 3) hN (dGs_cons (dG_name (i := 4) hN (dGs_nil ?_))))) rfl
  show dSs _ _ [.im (tD t), .im (.str a), .im (.str b), .im (.lst ((way t a).map .str)), .im (.lst ((way t b).map .str)), .un, .un, .un] _
  refine dSs_cons (dS_set (i := 5) hN (dE_ix (dE_new (dN_fl Str [("name", 7)] rfl hN (blk rfl) (sub rfl) (dI_list (dE_var (i := 3) rfl ⟨_, .inl rfl, ?_⟩))))))
  refine ⟨way t a, .str, .str, fun z => decide (z ∈ way t b), rfl, by omega, fun o mo s0 H0 C cl fp => ?_, ?_⟩
  · refine dG_name (i := 7) hN fun s0 H0 C cl fp => dTs_one (dT_cmp (dE_inS (dE_var (i := 7) rfl (dE_var (i := 4) rfl ⟨_, _, rfl, rfl, _, rfl, rfl, fun _ s0 H0 C cl fp => dE_var (i := 7) rfl ⟨rfl, rfl⟩, fun _ => rfl⟩))))
  obtain ⟨r, er⟩ := m.first
  rw [er]
  have h0 : atI (List.map D.str (x :: r)) 0 = some (.str x) := atI_nat (j := 0) rfl
  refine dE_int ⟨_, 0, .str x, rfl, rfl, h0, ?_⟩
  show dSs _ _ [.im (tD t), .im (.str a), .im (.str b), .im (.lst ((way t a).map .str)), .im (.lst ((way t b).map .str)), .im (.str x), .un, .un] _
  refine dSs_cons (dS_set (i := 6) hN (dE_new (dN_cat (dE_new (dN_slice (dE_var (i := 3) rfl (dE_add (dE_index (dE_var (i := 3) rfl ⟨_, rfl, dE_var (i := 5) rfl ⟨_, rfl, m.xA, dE_int ⟨_, _, rfl, rfl, _, rfl, _, .inl rfl, ?_⟩⟩⟩)))))))))
  have e1 : ((List.idxOf x (way t a) : Nat) : Int) + 1 = ((q.length + 1 : Nat) : Int) := by rw [m.ixA]; omega
  rw [e1, cut_to (by omega), m.cutA]
  refine dE_new (dN_rev (dE_new (dN_slice (dE_var (i := 4) rfl (dE_index (dE_var (i := 4) rfl ⟨_, rfl, dE_var (i := 5) rfl ⟨_, rfl, m.xB, _, rfl, _, .inl rfl, ?_⟩⟩))))))
  rw [m.ixB, cut_to (by omega), m.cutB]
  refine ⟨_, rfl, _, _, rfl, rfl, by simp; omega, ?_⟩
  obtain ⟨du, hdu⟩ : ∃ du, du = BtwA.due ⟨t, a, b, q, p, x, l⟩ := ⟨_, rfl⟩
  have ed : (q ++ [x]).map D.str ++ (p.map D.str).reverse = du.map D.str := by rw [hdu]; simp [BtwA.due]
  rw [ed]
  have dk := due_keys ok1
  have dl := due_len ok1
  rw [← hdu] at dk dl
  show dSs _ _ [.im (tD t), .im (.str a), .im (.str b), .im (.lst ((way t a).map .str)), .im (.lst ((way t b).map .str)), .im (.str x), .im (.lst (du.map .str)), .un] _
  have kk : ∀ z ∈ du, okS z = true ∧ z.length ≤ 100 := fun z hz => key_ok gd (dk z hz)
  have sw := shows_tups kk kk (by omega) (by omega)
  refine dSs_cons (dS_if (dT_cmp (dE_ne (dE_repr hr hg T.repr (dE_new (dN_lst (dA_cons (dE_fn C1 hr hg (by omega) (dA_cons (dE_var (i := 0) rfl (dA_cons (dE_var (i := 1) rfl (dA_one (dE_var (i := 2) rfl ⟨[tD t, .str a, .str b], ⟨t, a, b, q, p, x, l⟩, rfl, rfl, ok1, fun r1 o1 h1 => ?_⟩))))))))))))))
  refine dA_one (dE_fnK C2 hr hg (by omega) (dK_cons (dE_var (i := 2) rfl (dK_cons (dE_var (i := 0) rfl (dK_cons (dE_var (i := 1) rfl (dK_nil ⟨rfl, ⟨t, a, b, q, p, x, l⟩, rfl, ok1, fun r2 o2 h2 => ?_⟩))))))))
  replace h1 : r1 = .tup (du.map .str) := by rw [hdu]; exact h1
  replace h2 : r2 = .tup (du.map .str) := by rw [hdu]; exact h2
  subst h1 h2
  refine ⟨[_, _], rfl, by simp, sw, ?_⟩
  refine dE_repr hr hg T.repr (dE_new (dN_lst (dA_cons (dE_tuple T.tuple (dE_var (i := 6) rfl ⟨_, rfl, dA_one (dE_tuple T.tuple (dE_var (i := 6) rfl ⟨_, rfl, [_, _], rfl, by simp, sw, _, rfl, _, rfl, ?_⟩))⟩)))))
  rw [decide_eq_true rfl]
  refine sF (dSs_nil ?_)
  refine dSs_cons (dS_ret (dE_eqD hr.units (dE_fn C1 hr hg (by omega) (dA_cons (dE_var (i := 0) rfl (dA_cons (dE_var (i := 2) rfl (dA_one (dE_var (i := 1) rfl ⟨[tD t, .str b, .str a], ⟨t, b, a, p, q, x, l⟩, rfl, rfl, ok2, fun r1 o1 h1 => ?_⟩)))))))))
  have er2 : BtwA.due ⟨t, b, a, p, q, x, l⟩ = du.reverse := by rw [hdu]; simp [BtwA.due]
  replace h1 : r1 = .tup (du.reverse.map .str) := by rw [← er2]; exact h1
  subst h1
  refine dE_tuple T.tuple (dE_new (dN_rev (dE_var (i := 6) rfl ⟨_, rfl, _, rfl, ?_⟩)))
  rw [← List.map_reverse]
  have cm : Cmps (.tup (du.reverse.map .str)) := cmps_tup fun z hz => (kk z (List.mem_reverse.mp hz)).1
  refine ⟨cm, cm, _, Outs.none, ?_⟩
  show D.bl _ = .bl true
  rw [cmps_eqv cm]
end
/-! ### the law -/
theorem up_eq {t : Tr} {s : Str} {v : Option Str} (nd : (keys t).Nodup) (m : (s, v) ∈ t) : up t s = some v := by
  induction t with
  | nil => cases m
  | cons q t ih =>
    have h := List.nodup_cons.mp nd
    unfold up
    rcases List.mem_cons.mp m with e | m
    · subst e; simp
    · have : q.1 ≠ s := fun e => h.1 (by rw [show (fun x : Str × Option Str => x.1) q = s from e]; exact List.mem_map.mpr ⟨(s, v), m, rfl⟩)
      have := ih h.2 m
      simpa [List.find?_cons, *, up] using this
theorem top_up {t : Tr} (g : Good t) : up t (top t) = some none ∧ top t ∈ keys t := by
  obtain ⟨z, hz⟩ := List.length_eq_one_iff.mp g.one
  have mz : z ∈ t.filter (·.2.isNone) := by rw [hz]; simp
  obtain ⟨m1, m2⟩ := List.mem_filter.mp mz
  have e : top t = z.1 := by rw [top, hz]; rfl
  have e2 : z.2 = none := by
    cases hv : z.2 with
    | none => rfl
    | some u => rw [hv] at m2; cases m2
  rw [e]
  exact ⟨up_eq g.nd (by rw [← e2]; exact m1), List.mem_map.mpr ⟨z, m1, rfl⟩⟩
theorem top_first {t : Tr} (g : Good t) : ∃ r, (keys t).filter (fun o => ((up t o).getD none).isNone) = top t :: r := by
  obtain ⟨h1, h2⟩ := top_up g
  have hm : top t ∈ (keys t).filter (fun o => ((up t o).getD none).isNone) := List.mem_filter.mpr ⟨h2, by rw [h1]; rfl⟩
  match hl : (keys t).filter (fun o => ((up t o).getD none).isNone), hm with
  | z :: r, _ =>
    have hz : z ∈ (keys t).filter (fun o => ((up t o).getD none).isNone) := by rw [hl]; exact List.mem_cons_self
    obtain ⟨a, b⟩ := List.mem_filter.mp hz
    obtain ⟨v, hv, _⟩ := up_of_mem a
    rw [hv] at b
    have : v = none := by cases v <;> first | rfl | cases b
    rw [this] at hv
    exact ⟨r, by rw [good_tops g hv h1]⟩
theorem tK_flat (t : Tr) : (tK t).all (fun q => q.2.flat) = true := by
  unfold tK
  rw [List.all_map, List.all_eq_true]
  intro q _
  show (uD q.2).flat = true
  cases q.2 <;> rfl
theorem tree_parts : ∀ {t : Tr}, (∀ q ∈ t, isNm (.str q.1) = true ∧ ∀ u, q.2 = some u → isNm (.str u) = true) →
    PyData.showableKv (D.pyk (tK t)) = true ∧ PyData.leavesShortKv 13 (D.pyk (tK t)) = true ∧ PyData.depthKv (D.pyk (tK t)) = 0 ∧ PyData.weightKv (D.pyk (tK t)) ≤ 18 * t.length
  | [], _ => ⟨rfl, rfl, rfl, by simp [tK, D.pyk, PyData.weightKv]⟩
  | q :: t, h => by
    obtain ⟨h1, h2, h3, h4⟩ := tree_parts fun x m => h x (List.mem_cons_of_mem _ m)
    obtain ⟨n1, n2⟩ := h q List.mem_cons_self
    have sh : ∀ {s : Str}, isNm (.str s) = true → (s.cps.toList.all fun c => decide (c < 16 ^ 8)) = true := fun {s} n => by
      rw [isNm_iff] at n
      rw [List.all_eq_true]
      intro c hc
      have := abc_lt c (n.abc c hc)
      exact decide_eq_true (by omega)
    have ln : ∀ {s : Str}, isNm (.str s) = true → s.cps.size ≤ 8 := fun {s} n => isNm_len n
    have e : D.pyk (tK (q :: t)) = (.str q.1, (uD q.2).py) :: D.pyk (tK t) := rfl
    rw [e]
    have l1 := ln n1
    cases hq : q.2 with
    | none =>
      simp only [uD, D.py, PyData.showableKv, PyData.showable, PyData.leavesShortKv, PyData.leavesShort, PyData.depthKv, PyData.depth, PyData.weightKv, PyData.weight, h1, h2, h3, sh n1, List.length_cons]
      exact ⟨rfl, rfl, rfl, by omega⟩
    | some u =>
      have l2 := ln (n2 u hq)
      simp only [uD, D.py, PyData.showableKv, PyData.showable, PyData.leavesShortKv, PyData.leavesShort, PyData.depthKv, PyData.depth, PyData.weightKv, PyData.weight, h1, h2, h3, sh n1, sh (n2 u hq), List.length_cons]
      exact ⟨rfl, rfl, rfl, by omega⟩
theorem tree_shows {t : Tr} (g : Good t) : Shows (tD t) := by
  obtain ⟨r, hr⟩ := g.rk
  obtain ⟨h1, h2, h3, h4⟩ := tree_parts (t := t) fun q m => ⟨g.nm q m, fun u e => g.nmK ((hr q m).2 u e).1⟩
  have hl := g.len
  refine ⟨by simp only [D.py, PyData.showable]; exact h1, PyData.shown_fits (B := 13) (by omega) (by omega) (by simp only [D.py, PyData.leavesShort]; exact h2) (by simp only [D.py, PyData.weight]; omega), by simp only [D.py, PyData.depth, h3]; omega, .inr ⟨_, rfl, tK_flat t⟩⟩
theorem most_at (k : Bool) : ∃ b : Int, atI [D.int 40, .int 12] (if k then 1 else 0) = some (.int b) ∧ 6 ≤ b ∧ b ≤ 40 := by
  cases k
  · exact ⟨40, atI_nat (j := 0) rfl, by omega, by omega⟩
  · exact ⟨12, atI_nat (j := 1) rfl, by omega, by omega⟩
theorem cut63 (ns : List Int) : ∃ ms : List Int, Nd.cutD (ns.map D.int) none (some 63) = ms.map D.int ∧ ms.length ≤ 63 := by
  unfold Nd.cutD
  rw [HT.sIx_none, show (63 : Int) = ((63 : Nat) : Int) from rfl, HT.sIx_nat]
  refine ⟨ns.take (min 63 ns.length), by simp [List.map_take], by simp; omega⟩
section
variable {P : Program} {w : World} {K : PySem.W.Frag} {mg : Str → Option Value} {base : Heap} {f : Addr} {fd : FuncData}
theorem ok_law (T : Gs mg) (CB : FdN P w K mg base "_law_new_bag" 1 ["cell", "at"] cBag) (C : Fd P w K mg base "_law_draw" 1 ["bag", "many"] cDraw) (CS : Fd P w K mg base "_law_some_halls" 3 ["bag", "most"] cSome)
    (CH : Fd P w K mg base "are_halls" 2 ["thing"] cHalls) (CR : Fd P w K mg base "root_of" 4 ["halls"] cTop) (CRK : Fk P w K mg base "root_of" 4 ["halls"] ["halls"] [0] cTop)
    (CW : Fd P w K mg base "_law_ways_right" 5 ["tree", "spot"] cRight) (CT : Fd P w K mg base "_law_between_right" 5 ["tree", "here", "there"] cBetR) (F : Fun K "law" "law" s_law f fd) :
    FnG P w K mg base CX0 6 f fd ["script"] (spD K cLaw) := by
  refine fnD (k := 5) F sc_law (fun _ => rfl) ?_
  intro cdv A out s H E hr hg ns hns
  replace hns : ns.length ≤ 1000000 := hns.1
  show dSs _ _ [.im (.fls (ns.map .int)), .un, .un, .un, .un, .un, .un, .un, .un, .un, .un, .un] _
  have hN := sc_law.nd
  obtain ⟨ms, em, lm⟩ := cut63 ns
  refine dSs_cons (dS_for PassesOwn.never rfl (dI_enum T.enum (dA_one (dE_new (dN_cat (dE_new (dN_slice (dE_var (i := 0) rfl (dE_int ⟨_, rfl, _, .inr rfl, ?_⟩)))))))))
  rw [em]
  refine dE_new (dN_lst (dA_one (dE_len T.len (dE_var (i := 0) rfl ⟨_, rfl, by rw [List.length_map]; exact hns, [.int _], rfl, by simp, _, _, rfl, rfl, by simp; omega, _, _, rfl, .inl rfl, ?_⟩))))
  have exs : ms.map D.int ++ [D.int ((ns.map D.int).length : Nat)] = (ms ++ [((ns.map D.int).length : Int)]).map D.int := by simp
  rw [exs]
  obtain ⟨xs, hxs⟩ : ∃ xs, xs = ms ++ [((ns.map D.int).length : Int)] := ⟨_, rfl⟩
  rw [← hxs]
  have lx : xs.length ≤ 64 := by rw [hxs]; simp; omega
  refine ⟨fun k Γ => ∃ e1 e2 e3 e4 e5 e6 e7 e8 e9 e10 e11, Γ = [.im (.fls (ns.map .int)), e1, e2, e3, e4, e5, e6, e7, e8, e9, e10, e11], ⟨_, _, _, _, _, _, _, _, _, _, _, rfl⟩, ?_, ?_⟩
  · rintro k it Γ hit ⟨e1, e2, e3, e4, e5, e6, e7, e8, e9, e10, e11, rfl⟩
    have hk : k < xs.length := by
      have := (List.getElem?_eq_some_iff.mp hit).1
      rw [pairsFrom_len, List.length_map] at this
      exact this
    have eit : it = .tup [.int (0 + (k : Int)), .int xs[k]] := by
      have := pairsFrom_get (xs := xs.map D.int) (i := 0) (k := k) (d := .int xs[k]) (by rw [List.getElem?_map, List.getElem?_eq_getElem hk]; rfl)
      rw [this] at hit
      cases hit
      rfl
    obtain ⟨c, hc⟩ : ∃ c, c = xs[k] := ⟨_, rfl⟩
    rw [← hc] at eit
    subst eit
    refine dG_tup rfl (dGs_cons (dG_name (i := 1) hN (dGs_cons (dG_name (i := 2) hN (dGs_nil ?_))))) rfl
    show dSs _ _ [.im (.fls (ns.map .int)), .im (.int (0 + (k : Int))), .im (.int c), e3, e4, e5, e6, e7, e8, e9, e10, e11] _
    refine dSs_cons (dS_setO (i := 3) hN (dN_fn CB hr hg (by omega) (dA_cons (dE_var (i := 2) rfl (dA_one (dE_var (i := 1) rfl ⟨[.int c, .int (0 + (k : Int))], ⟨c, 0 + (k : Int)⟩, rfl, rfl, ⟨?_, ?_⟩, ?_⟩))))))
    · show 0 ≤ 0 + (k : Int)
      omega
    · show 0 + (k : Int) ≤ 1000
      omega
    rintro bs o ⟨d, m, rfl⟩ p0
    show dSs _ _ [.im (.fls (ns.map .int)), .im (.int (0 + (k : Int))), .im (.int c), .ow (.ref p0) (bagO d m 0), e4, e5, e6, e7, e8, e9, e10, e11] _
    refine dSs_cons (dS_set (i := 4) hN (dE_fnO CS hr hg (by omega) (dA_own (i := 3) rfl (dA_one (dE_ix (dE_new (dN_lst (dA_cons (dE_int (dA_one (dE_int ⟨[.int 40, .int 12], rfl, by simp, ?_⟩)))))))))))
    refine dE_intB T.int (dE_gt (dE_var (i := 1) rfl (dE_int ⟨_, _, rfl, rfl, _, rfl, ?_⟩)))
    obtain ⟨b, eb, b1, b2⟩ := most_at (decide (9 < 0 + (k : Int)))
    refine ⟨_, _, .int b, rfl, rfl, eb, 3, [.int b], ⟨.ref p0, d, m, 0, b⟩, .ref p0, _, rfl, rfl, rfl, ⟨?_, ?_, b1, b2⟩, ?_⟩
    · show (0 : Int) ≤ 0
      omega
    · show (0 : Int) ≤ 800000
      omega
    rintro r o ⟨t, d1, u1, rfl, g, g1, rfl⟩
    replace g1 : 0 ≤ u1 ∧ u1 ≤ 0 + 2000 := g1
    refine ⟨_, _, rfl, ?_⟩
    show dSs _ _ [.im (.fls (ns.map .int)), .im (.int (0 + (k : Int))), .im (.int c), .ow (.ref p0) (bagO d1 m u1), .im (tD t), e5, e6, e7, e8, e9, e10, e11] _
    have hlen := g.len
    have hkl := keys_len t
    refine dSs_cons (dS_set (i := 5) hN (dE_new (dN_listD rfl T.list (dE_var (i := 4) rfl ⟨_, rfl, ?_⟩))))
    rw [keys_kD]
    have sh := tree_shows g
    refine dSs_cons (dS_set (i := 6) hN (dE_repr hr hg T.repr (dE_var (i := 4) rfl ⟨sh, ?_⟩)))
    obtain ⟨kp, hkp⟩ : ∃ kp, kp = (tD t).py.shown := ⟨_, rfl⟩
    rw [← hkp]
    show dSs _ _ [.im (.fls (ns.map .int)), .im (.int (0 + (k : Int))), .im (.int c), .ow (.ref p0) (bagO d1 m u1), .im (tD t), .im (.lst ((keys t).map .str)), .im (.str kp), e7, e8, e9, e10, e11] _
    refine dSs_cons (dS_set (i := 7) hN (dE_ix (dE_new (dN_fl Str [("name", 11)] rfl hN (blk rfl) (sub rfl) (dI_list (dE_var (i := 5) rfl ⟨_, .inl rfl, ?_⟩))))))
    refine ⟨keys t, .str, .str, fun o => ((up t o).getD none).isNone, rfl, by omega, fun o mo s0 H0 C0 cl fp => ?_, ?_⟩
    · obtain ⟨v, hv, _⟩ := up_of_mem mo
      have hl : look (tK t) (.inr o) = some (uD v) := by rw [look_tK, hv]; rfl
      refine dG_name (i := 11) hN fun s0 H0 C0 cl fp => dTs_one (dT_cmp (dE_isN (dE_ixD (hu_of hr) (dE_var (i := 4) rfl (dE_var (i := 11) rfl ⟨_, .inr o, _, rfl, rfl, hl, _, rfl, ?_, fun _ s0 H0 C0 cl fp => dE_var (i := 11) rfl ⟨rfl, rfl⟩, fun _ => rfl⟩)))))
      show (uD v).isNon = ((up t o).getD none).isNone
      rw [hv]
      exact uD_non
    obtain ⟨rr, er⟩ := top_first g
    rw [er]
    have h0 : atI (List.map D.str (top t :: rr)) 0 = some (.str (top t)) := atI_nat (j := 0) rfl
    refine dE_int ⟨_, 0, .str (top t), rfl, rfl, h0, ?_⟩
    show dSs _ _ [.im (.fls (ns.map .int)), .im (.int (0 + (k : Int))), .im (.int c), .ow (.ref p0) (bagO d1 m u1), .im (tD t), .im (.lst ((keys t).map .str)), .im (.str kp), .im (.str (top t)), e8, e9, e10, .un] _
    refine dSs_cons (dS_if (dT_bool (dW_or (dT_cmp (dE_notBl (dE_fn CH hr hg (by omega) (dA_one (dE_var (i := 4) rfl ⟨[tD t], t, rfl, rfl, g, ?_⟩))))))))
    rintro r o rfl
    refine dE_bl ⟨_, _, rfl, rfl, _, rfl, sF' (dW_or (dT_cmp (dE_ne (dE_fn CR hr hg (by omega) (dA_one (dE_var (i := 4) rfl ⟨[tD t], t, rfl, rfl, g, ?_⟩))))))⟩
    rintro r o rfl
    refine dE_var (i := 7) rfl ⟨_, rfl, _, rfl, ?_⟩
    rw [decide_eq_true rfl]
    refine sF' (dW_or1 (dT_cmp (dE_ne (dE_fnK CRK hr hg (by omega) (dK_cons (dE_var (i := 4) rfl (dK_nil ⟨rfl, t, rfl, g, ?_⟩)))))))
    rintro r o rfl
    refine dE_var (i := 7) rfl ⟨_, rfl, _, rfl, ?_⟩
    rw [decide_eq_true rfl]
    refine sF (dSs_nil ?_)
    show dSs _ _ [.im (.fls (ns.map .int)), .im (.int (0 + (k : Int))), .im (.int c), .ow (.ref p0) (bagO d1 m u1), .im (tD t), .im (.lst ((keys t).map .str)), .im (.str kp), .im (.str (top t)), e8, e9, e10, .un] _
    have at_ : ∀ {j : Int}, (0 ≤ j ∧ j < ((keys t).map D.str).length) → ∃ s, s ∈ keys t ∧ atI ((keys t).map D.str) j = some (.str s) := fun {j} hj => by
      obtain ⟨i, rfl⟩ : ∃ i : Nat, j = (i : Int) := ⟨j.toNat, by omega⟩
      have hi : i < (keys t).length := by rw [List.length_map] at hj; omega
      exact ⟨(keys t)[i], List.getElem_mem hi, atI_nat (by rw [List.getElem?_map, List.getElem?_eq_getElem hi]; rfl)⟩
    have kl : ((keys t).map D.str).length = t.length := by rw [List.length_map, hkl]
    refine dSs_cons (dS_for PassesOwn.never rfl (dI_range1 T.range (dA_one (dE_int ⟨3, rfl, by omega, by omega, ?_⟩))))
    refine ⟨fun j Γ => ∃ (d' t' : Int) (e8 e9 e10 : Sl), Γ = [.im (.fls (ns.map .int)), .im (.int (0 + (k : Int))), .im (.int c), .ow (.ref p0) (bagO d' m t'), .im (tD t), .im (.lst ((keys t).map .str)), .im (.str kp), .im (.str (top t)), e8, e9, e10, .un] ∧ (0 ≤ t' ∧ t' ≤ 2000 + 2 * j),
      ⟨d1, u1, _, _, _, rfl, by omega, by omega⟩, ?_, ?_⟩
    · rintro j it Γ hit ⟨d2, u2, e8, e9, e10, rfl, lo, hi⟩
      have hj : j < 3 := by
        have := (List.getElem?_eq_some_iff.mp hit).1
        rw [upto_len] at this
        omega
      refine dG_name (i := 8) hN ?_
      show dSs _ _ [.im (.fls (ns.map .int)), .im (.int (0 + (k : Int))), .im (.int c), .ow (.ref p0) (bagO d2 m u2), .im (tD t), .im (.lst ((keys t).map .str)), .im (.str kp), .im (.str (top t)), .im it, e9, e10, .un] _
      refine dSs_cons (dS_par (i := 9) (j := 10) hN rfl (dA_cons (dE_ix (dE_var (i := 5) rfl (dE_draw C hr hg (by omega) (i := 3) rfl (dE_len T.len (dE_var (i := 5) rfl ⟨_, rfl, by omega, _, d2, m, u2, rfl, rfl, by omega, by omega, fun d3 u3 r3 h3 g3 => ?_⟩)))))))
      obtain ⟨sa, ma, aa⟩ := at_ h3
      refine ⟨_, _, .str sa, rfl, rfl, aa, ?_⟩
      refine dA_one (dE_ix (dE_var (i := 5) rfl (dE_draw C hr hg (by omega) (i := 3) rfl (dE_len T.len (dE_var (i := 5) rfl ⟨_, rfl, by omega, _, d3, m, u3, rfl, rfl, by omega, by omega, fun d4 u4 r4 h4 g4 => ?_⟩)))))
      obtain ⟨sb, mb, ab⟩ := at_ h4
      refine ⟨_, _, .str sb, rfl, rfl, ab, _, _, rfl, ?_⟩
      show dSs _ _ [.im (.fls (ns.map .int)), .im (.int (0 + (k : Int))), .im (.int c), .ow (.ref p0) (bagO d4 m u4), .im (tD t), .im (.lst ((keys t).map .str)), .im (.str kp), .im (.str (top t)), .im it, .im (.str sa), .im (.str sb), .un] _
      obtain ⟨q, p, x, l, mt⟩ := meet g ma mb
      refine dSs_cons (dS_if (dT_bool (dW_or (dT_not (dT_val (dE_fn CW hr hg (by omega) (dA_cons (dE_var (i := 4) rfl (dA_one (dE_var (i := 9) rfl ⟨[tD t, .str sa], (t, sa), rfl, rfl, ⟨g, ma⟩, ?_⟩))))))))))
      rintro r o rfl
      refine ⟨_, rfl, sF' (dW_or1 (dT_not (dT_val (dE_fn CT hr hg (by omega) (dA_cons (dE_var (i := 4) rfl (dA_cons (dE_var (i := 9) rfl (dA_one (dE_var (i := 10) rfl ⟨[tD t, .str sa, .str sb], ⟨t, sa, sb, q, p, x, l⟩, rfl, rfl, ⟨g, ma, mb, mt⟩, ?_⟩)))))))))) ⟩
      rintro r o rfl
      exact ⟨_, rfl, sF (dSs_nil (dSs_nil ⟨d4, u4, _, _, _, rfl, by omega, by omega⟩))⟩
    · rintro Γ ⟨d2, u2, e8, e9, e10, rfl, lo, hi⟩
      refine dSs_cons (dS_if (dT_cmp (dE_ne (dE_repr hr hg T.repr (dE_var (i := 4) rfl ⟨sh, dE_var (i := 6) rfl ⟨_, rfl, _, rfl, ?_⟩⟩)))))
      rw [decide_eq_true hkp.symm]
      exact sF (dSs_nil (dSs_nil ⟨_, _, _, _, _, _, _, _, _, _, _, rfl⟩))
  · rintro Γ ⟨e1, e2, e3, e4, e5, e6, e7, e8, e9, e10, e11, rfl⟩
    exact dSs_cons (dS_ret (dE_bl ⟨_, Outs.none, rfl⟩))
end
/-! ### what the top has left -/
structure Top (K : PySem.W.Frag) : Prop where
  d_is_name : Def K "is_name" s_is_name
  d_comes_up : Def K "comes_up" s_comes_up
  d_are_halls : Def K "are_halls" s_are_halls
  d_need_halls : Def K "need_halls" s_need_halls
  d_need_hall : Def K "need_hall" s_need_hall
  d_top_of : Def K "top_of" s_top_of
  d_ways_of : Def K "ways_of" s_ways_of
  d_root_of : Def K "root_of" s_root_of
  d_way_up : Def K "way_up" s_way_up
  d_below : Def K "below" s_below
  d_between : Def K "between" s_between
  d_law_new_bag : Def K "_law_new_bag" s_law_new_bag
  d_law_draw : Def K "_law_draw" s_law_draw
  d_law_unlike_names : Def K "_law_unlike_names" s_law_unlike_names
  d_law_some_halls : Def K "_law_some_halls" s_law_some_halls
  d_law_way_to_root : Def K "_law_way_to_root" s_law_way_to_root
  d_law_ways_right : Def K "_law_ways_right" s_law_ways_right
  d_law_between_right : Def K "_law_between_right" s_law_between_right
  d_law : Def K "law" s_law
  z_isinstance : PySem.W.nsIn K mainGlobals "isinstance" = some none
  z_str : PySem.W.nsIn K mainGlobals "str" = some none
  z_dict : PySem.W.nsIn K mainGlobals "dict" = some none
  z_len : PySem.W.nsIn K mainGlobals "len" = some none
  z_all : PySem.W.nsIn K mainGlobals "all" = some none
  z_range : PySem.W.nsIn K mainGlobals "range" = some none
  z_sorted : PySem.W.nsIn K mainGlobals "sorted" = some none
  z_tuple : PySem.W.nsIn K mainGlobals "tuple" = some none
  z_list : PySem.W.nsIn K mainGlobals "list" = some none
  z_repr : PySem.W.nsIn K mainGlobals "repr" = some none
  z_max : PySem.W.nsIn K mainGlobals "max" = some none
  z_int : PySem.W.nsIn K mainGlobals "int" = some none
  z_enumerate : PySem.W.nsIn K mainGlobals "enumerate" = some none
  c_MOST_LETTERS : ∃ t, PySem.W.nsIn K mainGlobals "MOST_LETTERS" = some (some (.int 8 t))
  c_MOST_HALLS : ∃ t, PySem.W.nsIn K mainGlobals "MOST_HALLS" = some (some (.int 40 t))
  c_LETTERS : ∃ t, PySem.W.nsIn K mainGlobals "LETTERS" = some (some (.str LET t))
theorem fin {P : Program} {w : World} {K : PySem.W.Frag} {h : Heap} {mg : Str → Option Value} (X : K.In h) (G : h.Ns mainGlobals mg) (t : Top K) :
    Def K "law" s_law ∧ ∀ (base : Heap) (f : Addr) (fd : FuncData), Fun K "law" "law" s_law f fd → FnG P w K mg base CX0 6 f fd ["script"] (spD K cLaw) := by
  refine ⟨t.d_law, fun base f fd F => ?_⟩
  have T : Gs mg := ⟨PySem.W.mg_none_of X G t.z_isinstance, PySem.W.mg_none_of X G t.z_str, PySem.W.mg_none_of X G t.z_dict, PySem.W.mg_none_of X G t.z_len, PySem.W.mg_none_of X G t.z_all, PySem.W.mg_none_of X G t.z_range,
    PySem.W.mg_none_of X G t.z_sorted, PySem.W.mg_none_of X G t.z_tuple, PySem.W.mg_none_of X G t.z_list, PySem.W.mg_none_of X G t.z_repr, PySem.W.mg_none_of X G t.z_max, PySem.W.mg_none_of X G t.z_int, PySem.W.mg_none_of X G t.z_enumerate,
    t.c_MOST_LETTERS.imp fun _ e => PySem.W.mg_of X G e, t.c_MOST_HALLS.imp fun _ e => PySem.W.mg_of X G e, t.c_LETTERS.imp fun _ e => PySem.W.mg_of X G e⟩
  have c_is_name := fd_of (P := P) (w := w) (base := base) X G t.d_is_name (ps := ["thing"]) (fun _ _ _ _ _ _ us hl => match us, hl with | [_], _ => rfl) fun _ _ F => ok_is_name T F
  have c_comes := fd_of (P := P) (w := w) (base := base) X G t.d_comes_up (ps := ["thing", "hall"]) (fun _ _ _ _ _ _ us hl => match us, hl with | [_, _], _ => rfl) fun _ _ F => ok_comes_up T F
  have c_halls := fd_of (P := P) (w := w) (base := base) X G t.d_are_halls (ps := ["thing"]) (fun _ _ _ _ _ _ us hl => match us, hl with | [_], _ => rfl) fun _ _ F => ok_are_halls T c_is_name c_comes F
  have c_need := fd_of (P := P) (w := w) (base := base) X G t.d_need_halls (ps := ["halls"]) (fun _ _ _ _ _ _ us hl => match us, hl with | [_], _ => rfl) fun _ _ F => ok_need_halls T c_halls F
  have c_need1 := fd_of (P := P) (w := w) (base := base) X G t.d_need_hall (ps := ["halls", "hall"]) (fun _ _ _ _ _ _ us hl => match us, hl with | [_, _], _ => rfl) fun _ _ F => ok_need_hall T c_is_name F
  have c_top := fd_of (P := P) (w := w) (base := base) X G t.d_top_of (ps := ["halls"]) (fun _ _ _ _ _ _ us hl => match us, hl with | [_], _ => rfl) fun _ _ F => ok_top_of T F
  have c_ways := fd_of (P := P) (w := w) (base := base) X G t.d_ways_of (ps := ["halls", "hall"]) (fun _ _ _ _ _ _ us hl => match us, hl with | [_, _], _ => rfl) fun _ _ F => ok_ways_of T F
  have c_root := fd_of (P := P) (w := w) (base := base) X G t.d_root_of (ps := ["halls"]) (fun _ _ _ _ _ _ us hl => match us, hl with | [_], _ => rfl) fun _ _ F => ok_root_of T c_need c_top F
  have k_root := fk_of (P := P) (w := w) (base := base) X G t.d_root_of (ps := ["halls"]) (ks := ["halls"]) (perm := [0]) (fun _ _ _ _ _ _ ws hl => match ws, hl with | [_], _ => rfl) fun _ _ F => ok_root_of T c_need c_top F
  have c_wayup := fd_of (P := P) (w := w) (base := base) X G t.d_way_up (ps := ["halls", "hall"]) (fun _ _ _ _ _ _ us hl => match us, hl with | [_, _], _ => rfl) fun _ _ F => ok_way_up T c_need c_need1 c_ways F
  have k_wayup := fk_of (P := P) (w := w) (base := base) X G t.d_way_up (ps := ["halls", "hall"]) (ks := ["hall", "halls"]) (perm := [1, 0]) (fun _ _ _ _ _ _ ws hl => match ws, hl with | [_, _], _ => rfl) fun _ _ F => ok_way_up T c_need c_need1 c_ways F
  have c_below := fd_of (P := P) (w := w) (base := base) X G t.d_below (ps := ["halls", "hall"]) (fun _ _ _ _ _ _ us hl => match us, hl with | [_, _], _ => rfl) fun _ _ F => ok_below T c_need c_need1 c_ways F
  have k_below := fk_of (P := P) (w := w) (base := base) X G t.d_below (ps := ["halls", "hall"]) (ks := ["hall", "halls"]) (perm := [1, 0]) (fun _ _ _ _ _ _ ws hl => match ws, hl with | [_, _], _ => rfl) fun _ _ F => ok_below T c_need c_need1 c_ways F
  have c_betw := fd_of (P := P) (w := w) (base := base) X G t.d_between (ps := ["halls", "one", "other"]) (fun _ _ _ _ _ _ us hl => match us, hl with | [_, _, _], _ => rfl) fun _ _ F => ok_between T c_need c_need1 c_ways F
  have k_betw := fk_of (P := P) (w := w) (base := base) X G t.d_between (ps := ["halls", "one", "other"]) (ks := ["other", "halls", "one"]) (perm := [1, 2, 0]) (fun _ _ _ _ _ _ ws hl => match ws, hl with | [_, _, _], _ => rfl) fun _ _ F => ok_between T c_need c_need1 c_ways F
  have c_bag := fdN_of (P := P) (w := w) (base := base) X G t.d_law_new_bag (ps := ["cell", "at"]) (fun _ _ _ _ _ _ us hl => match us, hl with | [_, _], _ => rfl) fun _ _ F => ok_new_bag F
  have c_draw := fd_of (P := P) (w := w) (base := base) X G t.d_law_draw (ps := ["bag", "many"]) (fun _ _ _ _ _ _ us hl => match us, hl with | [_, _], _ => rfl) fun _ _ F => ok_draw F
  have c_names := fd_of (P := P) (w := w) (base := base) X G t.d_law_unlike_names (ps := ["bag", "many"]) (fun _ _ _ _ _ _ us hl => match us, hl with | [_, _], _ => rfl) fun _ _ F => ok_unlike_names T c_draw F
  have c_some := fd_of (P := P) (w := w) (base := base) X G t.d_law_some_halls (ps := ["bag", "most"]) (fun _ _ _ _ _ _ us hl => match us, hl with | [_, _], _ => rfl) fun _ _ F => ok_some_halls T c_draw c_names F
  have c_wtr := fd_of (P := P) (w := w) (base := base) X G t.d_law_way_to_root (ps := ["tree", "spot"]) (fun _ _ _ _ _ _ us hl => match us, hl with | [_, _], _ => rfl) fun _ _ F => ok_way_to_root T F
  have c_wr := fd_of (P := P) (w := w) (base := base) X G t.d_law_ways_right (ps := ["tree", "spot"]) (fun _ _ _ _ _ _ us hl => match us, hl with | [_, _], _ => rfl) fun _ _ F => ok_ways_right T c_wtr c_wayup k_wayup c_below k_below F
  have c_br := fd_of (P := P) (w := w) (base := base) X G t.d_law_between_right (ps := ["tree", "here", "there"]) (fun _ _ _ _ _ _ us hl => match us, hl with | [_, _, _], _ => rfl) fun _ _ F => ok_between_right T c_wtr c_betw k_betw F
  exact ok_law T c_bag c_draw c_some c_halls c_root k_root c_wr c_br F
end K53
open PySem PySem.W PyProof.Rows
set_option maxRecDepth 100000 in
set_option maxHeartbeats 0 in
theorem PySem.Challenge.cw_newsdoors_k53_ways_and_what_is_below_holds : PySem.Challenge.rw_newsdoors_k53_ways_and_what_is_below.Holds := by
  w_on; o_law; k_head; (case hw => w_witness2)
  k_fill
  letI : Nd.Tb := ⟨[]⟩
  refine Nd.walkL (l := PySem.Challenge.rw_newsdoors_k53_ways_and_what_is_below) (n := 63) (k := 6) (x := "script") (st := K53.s_law) rfl rfl (by decide) rfl ⟨rfl, by decide, by decide⟩ (fun w h Y => PySem.W.kIn_of Y) (fun _ _ _ _ _ _ _ _ => .of_eq rfl) ?F
  case F =>
    intro w mg h KX G
    refine' K53.fin KX G ⟨(Nd.defAt ?a0 ?l0 ?c0 ?k0), (Nd.defAt ?a1 ?l1 ?c1 ?k1), (Nd.defAt ?a2 ?l2 ?c2 ?k2), (Nd.defAt ?a3 ?l3 ?c3 ?k3), (Nd.defAt ?a4 ?l4 ?c4 ?k4), (Nd.defAt ?a5 ?l5 ?c5 ?k5), (Nd.defAt ?a6 ?l6 ?c6 ?k6), (Nd.defAt ?a7 ?l7 ?c7 ?k7), (Nd.defAt ?a8 ?l8 ?c8 ?k8), (Nd.defAt ?a9 ?l9 ?c9 ?k9), (Nd.defAt ?a10 ?l10 ?c10 ?k10), (Nd.defAt ?a11 ?l11 ?c11 ?k11), (Nd.defAt ?a12 ?l12 ?c12 ?k12), (Nd.defAt ?a13 ?l13 ?c13 ?k13), (Nd.defAt ?a14 ?l14 ?c14 ?k14), (Nd.defAt ?a15 ?l15 ?c15 ?k15), (Nd.defAt ?a16 ?l16 ?c16 ?k16), (Nd.defAt ?a17 ?l17 ?c17 ?k17), (Nd.defAt ?a18 ?l18 ?c18 ?k18), ?z_isinstance, ?z_str, ?z_dict, ?z_len, ?z_all, ?z_range, ?z_sorted, ?z_tuple, ?z_list, ?z_repr, ?z_max, ?z_int, ?z_enumerate, (Nd.cI ?v_MOST_LETTERS), (Nd.cI ?v_MOST_HALLS), (Nd.cS ?v_LETTERS)⟩
    (case a0 => k_is); (case l0 => k_is); (case c0 => k_is); (case k0 => k_is); (case a1 => k_is); (case l1 => k_is); (case c1 => k_is); (case k1 => k_is)
    (case a2 => k_is); (case l2 => k_is); (case c2 => k_is); (case k2 => k_is); (case a3 => k_is); (case l3 => k_is); (case c3 => k_is); (case k3 => k_is)
    (case a4 => k_is); (case l4 => k_is); (case c4 => k_is); (case k4 => k_is); (case a5 => k_is); (case l5 => k_is); (case c5 => k_is); (case k5 => k_is)
    (case a6 => k_is); (case l6 => k_is); (case c6 => k_is); (case k6 => k_is); (case a7 => k_is); (case l7 => k_is); (case c7 => k_is); (case k7 => k_is)
    (case a8 => k_is); (case l8 => k_is); (case c8 => k_is); (case k8 => k_is); (case a9 => k_is); (case l9 => k_is); (case c9 => k_is); (case k9 => k_is)
    (case a10 => k_is); (case l10 => k_is); (case c10 => k_is); (case k10 => k_is); (case a11 => k_is); (case l11 => k_is); (case c11 => k_is); (case k11 => k_is)
    (case a12 => k_is); (case l12 => k_is); (case c12 => k_is); (case k12 => k_is); (case a13 => k_is); (case l13 => k_is); (case c13 => k_is); (case k13 => k_is)
    (case a14 => k_is); (case l14 => k_is); (case c14 => k_is); (case k14 => k_is); (case a15 => k_is); (case l15 => k_is); (case c15 => k_is); (case k15 => k_is)
    (case a16 => k_is); (case l16 => k_is); (case c16 => k_is); (case k16 => k_is); (case a17 => k_is); (case l17 => k_is); (case c17 => k_is); (case k17 => k_is)
    (case a18 => k_is); (case l18 => k_is); (case c18 => k_is); (case k18 => k_is); (case z_isinstance => k_is); (case z_str => k_is); (case z_dict => k_is); (case z_len => k_is)
    (case z_all => k_is); (case z_range => k_is); (case z_sorted => k_is); (case z_tuple => k_is); (case z_list => k_is); (case z_repr => k_is); (case z_max => k_is); (case z_int => k_is)
    (case z_enumerate => k_is); (case v_MOST_LETTERS => k_is); (case v_MOST_HALLS => k_is); (case v_LETTERS => k_is)
